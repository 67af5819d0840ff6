import PyProof.Rows.All
import Wide.All
import OpenK.AllK
import Wide.FinOn
import HandS.ForMost
import HandS.DictComp
import HandS.Strs
import HandS.IsInst
import HandS.SortInts
import KE.DataEq
import HandS.Wide
import HandS.Conv
import HandS.ExcOwn
import HandS.ExcInit
import HandS.ExcField
import HandS.ExcIs
import HandS.ExcSuper
import HandS.TryOnly
import HandS.TryMany
import HandS.Property
import HandS.ClsMeth
import HandS.OwnEq
import KE.KExcSuper
import HandS.Nested
import HandS.WordsExc
import KE.KExcIs
import KE.GoesMore
import HandS.TupAny
import HandS.Deep
import HandS.More
import HandS.SetKeys
import HandS.Star
import HandS.SetBool
import HandS.Flow
import HandS.SetFor
import HandS.Style
import HandS.Walk
import PyProof.InstEq
import KE.KOwnIter
import HandS.IterVal
import HandS.HotCalls
import HandS.TupSets
import KE.KTryMore
import HandS.OwnIter
import KE.SortCalls
import KE.SortData
import KE.DataCmp
import KE.KRevSl
import HandS.SortKw
import KE.DataMinMax
import HandS.TupLen
import KE.KDictSum
import HandS.Defaults
import HandS.FStr
import PyProof.FString3
import PyProof.StrOps2
import PyProof.Rows.StrIntSpec
import KE.RegKSuper
import PySem.Challenge.RW_comesapart_k00_ends_on_the_sides_of_plac
set_option Elab.async false
set_option linter.all false
set_option maxRecDepth 100000
section
set_option maxHeartbeats 4000000
/-! G0: rules that the layer lacks: a name takes a dict comprehension. -/
namespace L2
open PySem PySem.Spec PyProof.Rows
section
variable {X : Cx}
/-! the same rules over a written part that bears a name (K, w): within a comprehension's block the context is another, K and w are not -/
section
variable (K : PySem.W.Frag) (w : World)
theorem ix_lK (h : X.K = K := by rfl) : IxR X (rIxL K) := h ▸ ix_list
theorem ix_tK (h : X.K = K := by rfl) : IxR X (rIxT K) := h ▸ ix_tup
theorem ix_qK (h : X.K = K := by rfl) : IxR X (rIx K) := h ▸ ix_seq
theorem len_K (h : X.K = K := by rfl) : CallR X (.builtin "len") (fun xs H Q => ∃ p ys, xs = [.ref p] ∧ (SqL K H p ys ∨ SqT K H p ys) ∧ Q (.int ys.length) H) := h ▸ call_len_seq
theorem list_K (h : X.K = K := by rfl) : CallR X (.type "list") (fun xs H Q => ∃ p ys, xs = [.ref p] ∧ (SqL K H p ys ∨ SqT K H p ys) ∧ ∀ l, H l = none → Q (.ref l) (upd H l (.lst ys))) := h ▸ call_list_of
theorem tuple_K (h : X.K = K := by rfl) : CallR X (.type "tuple") (fun xs H Q => ∃ p ys, xs = [.ref p] ∧ ((SqL K H p ys ∧ ∀ l, H l = none → Q (.ref l) (upd H l (.tup ys))) ∨ (SqT K H p ys ∧ Q (.ref p) H))) := h ▸ call_tuple_of
/-- data without dicts, not too deep -/
def shP (d : PyData) : Bool := d.plain && decide (d.depth ≤ 64)
def rEqP (K : PySem.W.Frag) : R2 := fun x y H Q => ∃ d e, Dp K H x d ∧ Dp K H y e ∧ shP d = true ∧ shP e = true ∧ Q (.bl (PyData.eqv d e)) H
theorem op_eqDK (hu : X.A.units + 64 < cLine) (h : X.K = K := by rfl) : OpR X (compareOp .Eq) (rEqP K) := by
  subst h
  intro pins s σ H x y v u Q I rx ry ⟨d, e, hd, he, sd, se, q⟩
  obtain ⟨as, r1⟩ := Dp.reads I d x v hd rx
  obtain ⟨bs, r2⟩ := Dp.reads I e y u he ry
  simp only [shP, Bool.and_eq_true, decide_eq_true_eq] at sd se
  exact SeqAt.eq_plain r1 r2 sd.1 se.1 (by omega) ⟨.bl _, H, I, rfl, q⟩
theorem isi_K (h : X.K = K := by rfl) : CallR X (.builtin "isinstance") (rIsi K) := h ▸ call_isi
theorem pi_lK {tg l : Expr} {tl : TE} (hl : PE X l tl) (h : X.K = K := by rfl) : PI X tg l (iList K tl) := h ▸ pi_list hl
theorem pi_tK {tg l : Expr} {tl : TE} (hl : PE X l tl) (h : X.K = K := by rfl) : PI X tg l (iTup K tl) := h ▸ pi_tup hl
theorem bm_K {o e : Expr} {es : List Expr} {to : TE} {t : TA} {name : Str} {apos cpos : Pos} {T id : String} {r : V → List V → Hp → VK → Prop} (pa : PlainAttrs T) (slot : Slot T name id) (hty : typeOf (.builtin id) = pure (.type "method_descriptor")) (hm : MtR X id r) (ho : PE X o to) (ha : PA X (e :: es) t)
    (hbase : attributeBase o name X.env (eval o X.env) = eval o X.env := by rfl)
    (hfew : ((backTo cpos (starEach (e :: es) X.env)).all (fun x => !x.1) && (backToKw cpos (keywordEach [] X.env)).all (fun x => x.1.isSome)
      && decide ((e :: es).length + ([] : List Keyword).length + (if ([] : List Keyword).isEmpty then 0 else 1) < 30)) = true := by rfl)
    (hline : (apos.endLine == cpos.line) = true := by rfl) (hs : starEach (e :: es) X.env = (false, eval e X.env) :: starEach es X.env := by rfl) (hplain : (backTo cpos (starEach es X.env)).any (·.1) = false := by rfl) (h : X.K = K := by rfl) :
    PE X (.Call (.Attribute o name apos) (e :: es) [] cpos) (tBM K T r to t) := h ▸ pe_bm pa slot hty hm ho ha hbase hfew hline hs hplain
end
end
end L2
end

/-! G1: value environments over the hand layer. F: the frozen view of the heap (read only from now on), L: what is owned (may still be written). -/
namespace G
open PySem L2

structure GCtx where
  P : Program
  w : World
  K : PySem.W.Frag

abbrev LO := List (Addr × HO)

structure En where
  F0 : Hp
  H0 : Hp
  M : List Addr

structure Wk (e : En) (F : Hp) (L : LO) (H : Hp) : Prop where
  ff : Same e.F0 F
  hh : ∀ a o, a ∉ e.M → e.H0 a = some o → H a = some o
  th : ∀ a, e.H0 a ≠ none → H a ≠ none
  fh : Same F H
  nw : ∀ a, e.H0 a ≠ none → e.F0 a = none → F a = none
  tp : ∀ a xs, H a = some (.tup xs) → F a = some (.tup xs)
  ow : ∀ p ∈ L, F p.1 = none ∧ H p.1 = some p.2 ∧ (e.H0 p.1 = none ∨ p.1 ∈ e.M)
  nd : (L.map Prod.fst).Nodup

/-- the heap has grown, nothing that stood has changed -/
abbrev Gr (F H F' H' : Hp) : Prop := Wk ⟨F, H, []⟩ F' [] H'

theorem ne_some {α : Type} {x : Option α} {y : α} (h : x = some y) : x ≠ none := fun z => by rw [z] at h; cases h

theorem Wk.base {e : En} {F : Hp} {L : LO} {H : Hp} (k : Wk e F L H) : Gr F H F H :=
  ⟨Same.refl _, fun _ _ _ h => h, fun _ h => h, k.fh, fun _ _ h => h, k.tp, fun _ h => (nomatch h), List.nodup_nil⟩

theorem Wk.trans {e : En} {F F' : Hp} {L L' : LO} {H H' : Hp} (a : Wk e F L H) (b : Wk ⟨F, H, []⟩ F' L' H') : Wk e F' (L' ++ L) H' where
  ff := a.ff.trans b.ff
  hh := fun x o hx h => b.hh x o (fun z => nomatch z) (a.hh x o hx h)
  th := fun x h => b.th x (a.th x h)
  fh := b.fh
  nw := fun x h h' => b.nw x (a.th x h) (a.nw x h h')
  tp := b.tp
  ow := fun p hp => by
    rcases List.mem_append.mp hp with hp | hp
    · obtain ⟨h1, h2, h3⟩ := b.ow p hp
      refine ⟨h1, h2, .inl ?_⟩
      rcases h3 with h3 | h3
      · cases q : e.H0 p.1 with
        | none => rfl
        | some o => exact absurd h3 (a.th p.1 (ne_some q))
      · exact nomatch h3
    · obtain ⟨h1, h2, h3⟩ := a.ow p hp
      exact ⟨b.nw p.1 (ne_some h2) h1, b.hh p.1 p.2 (fun z => nomatch z) h2, h3⟩
  nd := by
    rw [List.map_append]
    refine List.nodup_append.mpr ⟨b.nd, a.nd, fun x hx y hy z => ?_⟩
    obtain ⟨p, hp, rfl⟩ := List.mem_map.mp hx
    obtain ⟨q, hq, rfl⟩ := List.mem_map.mp hy
    obtain ⟨_, _, h3⟩ := b.ow p hp
    obtain ⟨_, h2, _⟩ := a.ow q hq
    rcases h3 with h3 | h3
    · have h4 : H q.1 = none := (show p.1 = q.1 from z) ▸ (show H p.1 = none from h3)
      rw [h2] at h4
      cases h4
    · exact nomatch h3

theorem Wk.trans0 {e : En} {F F' : Hp} {L : LO} {H H' : Hp} (a : Wk e F L H) (b : Gr F H F' H') : Wk e F' L H' := a.trans b

/-- a part of what is owned may be forgotten; the order is nothing -/
theorem Wk.sub {e : En} {F : Hp} {L L' : LO} {H : Hp} (a : Wk e F L H) (hs : ∀ p ∈ L', p ∈ L) (hn : (L'.map Prod.fst).Nodup) : Wk e F L' H :=
  ⟨a.ff, a.hh, a.th, a.fh, a.nw, a.tp, fun p hp => a.ow p (hs p hp), hn⟩

theorem nodup_part {L1 Li L2 : LO} (h : ((L1 ++ Li ++ L2).map Prod.fst).Nodup) : ((L1 ++ L2).map Prod.fst).Nodup := by
  simp only [List.map_append] at h ⊢
  have h1 := List.nodup_append.mp h
  have h2 := List.nodup_append.mp h1.1
  exact List.nodup_append.mpr ⟨h2.1, h1.2.1, fun x hx y hy => h1.2.2 x (List.mem_append_left _ hx) y hy⟩
theorem Wk.drop {e : En} {F : Hp} {L1 Li L2 : LO} {H : Hp} (a : Wk e F (L1 ++ Li ++ L2) H) : Wk e F (L1 ++ L2) H :=
  a.sub (fun p hp => by
    rcases List.mem_append.mp hp with h | h
    · exact List.mem_append_left _ (List.mem_append_left _ h)
    · exact List.mem_append_right _ h) (nodup_part a.nd)
theorem nodup_mid {L1 Li L2 : LO} (h : ((L1 ++ Li ++ L2).map Prod.fst).Nodup) : ((Li ++ (L1 ++ L2)).map Prod.fst).Nodup := by
  simp only [List.map_append] at h ⊢
  refine (List.Perm.nodup_iff ?_).mp h
  rw [← List.append_assoc]
  exact List.Perm.append_right _ List.perm_append_comm
theorem nodup_back {L1 Li L2 : LO} (h : ((Li ++ (L1 ++ L2)).map Prod.fst).Nodup) : ((L1 ++ Li ++ L2).map Prod.fst).Nodup := by
  simp only [List.map_append] at h ⊢
  refine (List.Perm.nodup_iff ?_).mp h
  rw [← List.append_assoc]
  exact List.Perm.append_right _ List.perm_append_comm
theorem Wk.front {e : En} {F : Hp} {L1 Li L2 : LO} {H : Hp} (a : Wk e F (L1 ++ Li ++ L2) H) : Wk e F (Li ++ (L1 ++ L2)) H :=
  a.sub (fun p hp => by simp only [List.mem_append] at hp ⊢; rcases hp with h | h | h <;> simp [h]) (nodup_mid a.nd)
theorem Wk.back {e : En} {F : Hp} {L1 Li L2 : LO} {H : Hp} (a : Wk e F (Li ++ (L1 ++ L2)) H) : Wk e F (L1 ++ Li ++ L2) H :=
  a.sub (fun p hp => by simp only [List.mem_append] at hp ⊢; rcases hp with (h | h) | h <;> simp [h]) (nodup_back a.nd)

/-- a new object, owned -/
theorem Wk.own {e : En} {F : Hp} {L : LO} {H : Hp} {p : Addr} {o : HO} (a : Wk e F L H) (hp : H p = none) (ht : ∀ xs, o ≠ .tup xs) : Wk e F ((p, o) :: L) (upd H p o) where
  ff := a.ff
  hh := fun x u hx h => by rw [upd_ne (ne_of_none (a.hh x u hx h) hp)]; exact a.hh x u hx h
  th := fun x h => by
    by_cases hx : x = p
    · subst hx; rw [upd_same]; exact fun z => nomatch z
    · rw [upd_ne hx]; exact a.th x h
  fh := fun x u h => by rw [upd_ne (ne_of_none (a.fh x u h) hp)]; exact a.fh x u h
  nw := a.nw
  tp := fun x xs h => by
    by_cases hx : x = p
    · subst hx; rw [upd_same] at h; exact absurd (Option.some.inj h) (ht xs)
    · rw [upd_ne hx] at h; exact a.tp x xs h
  ow := fun q hq => by
    rcases List.mem_cons.mp hq with rfl | hq
    · refine ⟨Same.free a.fh hp, upd_same, .inl ?_⟩
      cases z : e.H0 p with
      | none => rfl
      | some u => exact absurd hp (a.th p (ne_some z))
    · obtain ⟨h1, h2, h3⟩ := a.ow q hq
      exact ⟨h1, by rw [upd_ne (ne_of_none h2 hp)]; exact h2, h3⟩
  nd := by
    refine List.nodup_cons.mpr ⟨fun z => ?_, a.nd⟩
    obtain ⟨q, hq, e1⟩ := List.mem_map.mp z
    obtain ⟨_, h2, _⟩ := a.ow q hq
    rw [show q.1 = p from e1, hp] at h2
    cases h2

/-- what is owned is frozen -/
theorem Wk.freeze1 {e : En} {F : Hp} {L : LO} {H : Hp} {p : Addr} {o : HO} (a : Wk e F ((p, o) :: L) H) (hm : p ∉ e.M) : Wk e (upd F p o) L H where
  ff := fun x u h => by
    have h1 := (a.ow (p, o) List.mem_cons_self).1
    rw [upd_ne (ne_of_none (a.ff x u h) h1)]
    exact a.ff x u h
  hh := a.hh
  th := a.th
  fh := fun x u h => by
    by_cases hx : x = p
    · subst hx; rw [upd_same] at h; cases h
      exact (a.ow (x, o) List.mem_cons_self).2.1
    · rw [upd_ne hx] at h; exact a.fh x u h
  nw := fun x h h' => by
    have hx : x ≠ p := fun z => by
      subst z
      rcases (a.ow (x, o) List.mem_cons_self).2.2 with z | z
      · exact h z
      · exact hm z
    rw [upd_ne hx]; exact a.nw x h h'
  tp := fun x xs h => by
    by_cases hx : x = p
    · subst hx
      have h2 := (a.ow (x, o) List.mem_cons_self).2.1
      rw [upd_same, ← h2, h]
    · rw [upd_ne hx]; exact a.tp x xs h
  ow := fun q hq => by
    obtain ⟨h1, h2, h3⟩ := a.ow q (List.mem_cons_of_mem _ hq)
    have hx : q.1 ≠ p := fun z => (List.nodup_cons.mp a.nd).1 (List.mem_map.mpr ⟨q, hq, z⟩)
    exact ⟨by rw [upd_ne hx]; exact h1, h2, h3⟩
  nd := (List.nodup_cons.mp a.nd).2
/-- the owned L joins F -/
def plus (F : Hp) : LO → Hp
  | [] => F
  | p :: L => plus (upd F p.1 p.2) L
theorem Wk.freeze : ∀ {Li L : LO} {e : En} {F : Hp} {H : Hp}, Wk e F (Li ++ L) H → (∀ p ∈ Li, p.1 ∉ e.M) → Wk e (plus F Li) L H
  | [], _, _, _, _, a, _ => a
  | p :: Li, L, e, F, H, a, hm => Wk.freeze (Li := Li) (Wk.freeze1 (p := p.1) (o := p.2) a (hm p List.mem_cons_self)) fun q hq => hm q (List.mem_cons_of_mem _ hq)
theorem same_plus : ∀ {Li : LO} {F : Hp}, (∀ p ∈ Li, F p.1 = none) → (Li.map Prod.fst).Nodup → Same F (plus F Li)
  | [], F, _, _ => Same.refl F
  | p :: Li, F, h, hn => by
    have h1 : Same F (upd F p.1 p.2) := fun x u e => by rw [upd_ne (ne_of_none e (h p List.mem_cons_self))]; exact e
    refine h1.trans (same_plus (fun q hq => ?_) (List.nodup_cons.mp hn).2)
    have hx : q.1 ≠ p.1 := fun z => (List.nodup_cons.mp hn).1 (List.mem_map.mpr ⟨q, hq, z⟩)
    rw [upd_ne hx]
    exact h q (List.mem_cons_of_mem _ hq)
theorem plus_get : ∀ {Li : LO} {F : Hp}, (∀ p ∈ Li, F p.1 = none) → (Li.map Prod.fst).Nodup → ∀ p ∈ Li, plus F Li p.1 = some p.2
  | [], _, _, _, _, hq => nomatch hq
  | p :: Li, F, h, hn, q, hq => by
    have hb : ∀ r ∈ Li, upd F p.1 p.2 r.1 = none := fun r hr => by
      have hx : r.1 ≠ p.1 := fun z => (List.nodup_cons.mp hn).1 (List.mem_map.mpr ⟨r, hr, z⟩)
      rw [upd_ne hx]
      exact h r (List.mem_cons_of_mem _ hr)
    rcases List.mem_cons.mp hq with rfl | hq
    · exact same_plus hb (List.nodup_cons.mp hn).2 q.1 q.2 upd_same
    · exact plus_get (Li := Li) hb (List.nodup_cons.mp hn).2 q hq

/-- a new object, frozen at once -/
theorem Wk.lay {e : En} {F : Hp} {L : LO} {H : Hp} {p : Addr} {o : HO} (a : Wk e F L H) (hp : H p = none) : Wk e (upd F p o) L (upd H p o) where
  ff := fun x u h => by rw [upd_ne (ne_of_none (a.ff x u h) (Same.free a.fh hp))]; exact a.ff x u h
  hh := fun x u hx h => by rw [upd_ne (ne_of_none (a.hh x u hx h) hp)]; exact a.hh x u hx h
  th := fun x h => by
    by_cases hx : x = p
    · subst hx; rw [upd_same]; exact fun z => nomatch z
    · rw [upd_ne hx]; exact a.th x h
  fh := fun x u h => by
    by_cases hx : x = p
    · subst hx; rw [upd_same] at h ⊢; exact h
    · rw [upd_ne hx] at h ⊢; exact a.fh x u h
  nw := fun x h h' => by
    have hx : x ≠ p := fun z => by subst z; exact a.th x h hp
    rw [upd_ne hx]; exact a.nw x h h'
  tp := fun x xs h => by
    by_cases hx : x = p
    · subst hx; rw [upd_same] at h ⊢; exact h
    · rw [upd_ne hx] at h ⊢; exact a.tp x xs h
  ow := fun q hq => by
    obtain ⟨h1, h2, h3⟩ := a.ow q hq
    have hx : q.1 ≠ p := ne_of_none h2 hp
    exact ⟨by rw [upd_ne hx]; exact h1, by rw [upd_ne hx]; exact h2, h3⟩
  nd := a.nd
/-- an owned object is written -/
theorem Wk.put {e : En} {F : Hp} {L : LO} {H : Hp} {p : Addr} {o o' : HO} (a : Wk e F ((p, o) :: L) H) (ht : ∀ xs, o' ≠ .tup xs) : Wk e F ((p, o') :: L) (upd H p o') where
  ff := a.ff
  hh := fun x u hx h => by
    have hp : x ≠ p := fun z => by
      subst z
      rcases (a.ow (x, o) List.mem_cons_self).2.2 with z | z
      · rw [show e.H0 x = none from z] at h; cases h
      · exact hx z
    rw [upd_ne hp]; exact a.hh x u hx h
  th := fun x h => by
    by_cases hx : x = p
    · subst hx; rw [upd_same]; exact fun z => nomatch z
    · rw [upd_ne hx]; exact a.th x h
  fh := fun x u h => by
    rw [upd_ne (ne_of_none h (a.ow (p, o) List.mem_cons_self).1)]; exact a.fh x u h
  nw := a.nw
  tp := fun x xs h => by
    by_cases hx : x = p
    · subst hx; rw [upd_same] at h; exact absurd (Option.some.inj h) (ht xs)
    · rw [upd_ne hx] at h; exact a.tp x xs h
  ow := fun q hq => by
    rcases List.mem_cons.mp hq with rfl | hq
    · obtain ⟨h1, _, h3⟩ := a.ow (p, o) List.mem_cons_self
      exact ⟨h1, upd_same, h3⟩
    · obtain ⟨h1, h2, h3⟩ := a.ow q (List.mem_cons_of_mem _ hq)
      have hx : q.1 ≠ p := fun z => (List.nodup_cons.mp a.nd).1 (List.mem_map.mpr ⟨q, hq, z⟩)
      exact ⟨h1, by rw [upd_ne hx]; exact h2, h3⟩
  nd := by
    have h := a.nd
    exact h

/-! ### data -/
class Dat (α : Type) where
  rep : GCtx → Hp → V → α → Prop
  mono : ∀ {C : GCtx} {F F' : Hp} {v : V} {x : α}, Same F F' → rep C F v x → rep C F' v x
/-- data that may be owned: L is its footprint -/
class OD (α : Type) [d : Dat α] where
  orep : GCtx → Hp → V → α → LO → Prop
  omono : ∀ {C : GCtx} {F F' : Hp} {v : V} {x : α} {L : LO}, Same F F' → orep C F v x L → orep C F' v x L
  view : ∀ {C : GCtx} {F H : Hp} {v : V} {x : α} {L : LO}, orep C F v x L → Same F H → (∀ p ∈ L, H p.1 = some p.2) → d.rep C H v x
/-- data that no store can change -/
class Imm (α : Type) [d : Dat α] : Prop where
  imm : ∀ {C : GCtx} {F H : Hp} {v : V} {x : α}, (∀ a xs, H a = some (.tup xs) → F a = some (.tup xs)) → d.rep C H v x → d.rep C F v x

inductive Cell : Type 1 where
  | no : Cell
  | val {α : Type} (d : Dat α) (x : α) : Cell
  | own {α : Type} (d : Dat α) (od : OD α) (pin : Option V) (x : α) : Cell
abbrev cv {α : Type} [d : Dat α] (x : α) : Cell := .val d x
abbrev co {α : Type} [d : Dat α] [od : OD α] (x : α) : Cell := .own d od none x
def CellOk (C : GCtx) (F : Hp) (o : Option V) : Cell → LO → Prop
  | .no, L => L = []
  | .val d x, L => L = [] ∧ ∃ v, o = some v ∧ d.rep C F v x
  | .own _ od pin x, L => ∃ v, o = some v ∧ (∀ u, pin = some u → v = u) ∧ od.orep C F v x L
theorem CellOk.mono {C : GCtx} {F F' : Hp} {o : Option V} : ∀ {c : Cell} {L : LO}, Same F F' → CellOk C F o c L → CellOk C F' o c L
  | .no, _, _, h => h
  | .val d x, _, s, ⟨h, v, e, r⟩ => ⟨h, v, e, d.mono s r⟩
  | .own _ od pin x, _, s, ⟨v, e, p, r⟩ => ⟨v, e, p, od.omono s r⟩

inductive Slots (C : GCtx) (F : Hp) : St → List Cell → LO → Prop where
  | nil : Slots C F [] [] []
  | cons {o : Option V} {c : Cell} {L L' : LO} {σ : St} {Γ : List Cell} (h : CellOk C F o c L) (r : Slots C F σ Γ L') : Slots C F (o :: σ) (c :: Γ) (L ++ L')
theorem Slots.mono {C : GCtx} {F F' : Hp} {σ : St} {Γ : List Cell} {L : LO} (s : Same F F') (h : Slots C F σ Γ L) : Slots C F' σ Γ L := by
  induction h with
  | nil => exact .nil
  | cons h _ ih => exact .cons (h.mono s) ih
theorem Slots.len {C : GCtx} {F : Hp} {σ : St} {Γ : List Cell} {L : LO} (h : Slots C F σ Γ L) : σ.length = Γ.length := by
  induction h with
  | nil => rfl
  | cons h _ ih => simp [ih]
theorem Slots.get {C : GCtx} {F : Hp} {σ : St} {Γ : List Cell} {L : LO} (h : Slots C F σ Γ L) : ∀ {i : Nat} {c : Cell}, Γ[i]? = some c →
    ∃ o L1 Li L2, σ[i]? = some o ∧ L = L1 ++ Li ++ L2 ∧ CellOk C F o c Li ∧ ∀ F' o' c' Li', Same F F' → CellOk C F' o' c' Li' → Slots C F' (σ.set i o') (Γ.set i c') (L1 ++ Li' ++ L2) := by
  induction h with
  | nil => intro i c h; cases i <;> cases h
  | @cons o c0 L L' σ Γ h r ih =>
    intro i c hi
    cases i with
    | zero =>
      cases (Option.some.inj hi : c0 = c)
      exact ⟨o, [], L, L', rfl, rfl, h, fun F' o' c' Li' s h' => .cons h' (r.mono s)⟩
    | succ i =>
      obtain ⟨o1, L1, Li, L2, e1, e2, h1, f⟩ := ih (i := i) (c := c) hi
      refine ⟨o1, L ++ L1, Li, L2, e1, by rw [e2]; simp [List.append_assoc], h1, fun F' o' c' Li' s h' => ?_⟩
      have q := Slots.cons (h.mono s) (f F' o' c' Li' s h')
      simpa [List.append_assoc] using q
theorem Slots.take {C : GCtx} {F : Hp} {σ : St} {Γ : List Cell} {L : LO} (h : Slots C F σ Γ L) (n : Nat) : ∃ L1, Slots C F (σ.take n) (Γ.take n) L1 ∧ L1.Sublist L := by
  induction h generalizing n with
  | nil => exact ⟨[], by simpa using Slots.nil, List.Sublist.refl _⟩
  | @cons o c0 L L' σ Γ h r ih =>
    cases n with
    | zero => exact ⟨[], by simpa using Slots.nil, List.nil_sublist _⟩
    | succ n =>
      obtain ⟨L1, q, s⟩ := ih n
      exact ⟨L ++ L1, by simpa using Slots.cons h q, List.Sublist.append (List.Sublist.refl _) s⟩

/-- an exception: its class, its attributes -/
structure Exn where
  cls : Addr
  fs : Option (List (Str × V))
def Exn.at (x : Exn) (F : Hp) : Option Addr → Prop
  | none => x.fs = none
  | some dd => ∃ fs, x.fs = some fs ∧ F dd = some (.xd fs)
/-- where one stands: the def's world, what is wished of an exception that leaves, which ones may leave, and with what environment -/
structure YC where
  g : GCtx
  E : St → XK
  kx : Exn → List Cell → Prop
abbrev YC.K (Y : YC) : PySem.W.Frag := Y.g.K
abbrev YC.w (Y : YC) : World := Y.g.w
abbrev YC.P (Y : YC) : Program := Y.g.P
abbrev calm (C : GCtx) : YC := ⟨C, fun _ _ _ _ => False, fun _ _ => False⟩
def St0 (C : GCtx) (e : En) (F : Hp) (σ : St) (H : Hp) (Γ : List Cell) : Prop := ∃ L, Wk e F L H ∧ Slots C F σ Γ L
def XOk (Y : YC) (e : En) : Prop := ∀ (x : Exn) (d : Option Addr) (F : Hp) (σ : St) (H : Hp) (Γ : List Cell), Y.kx x Γ → St0 Y.g e F σ H Γ → x.at F d → Y.E σ (.ref x.cls) d H
/-- THE STATE: the slots hold what the environment says -/
def State (Y : YC) (e : En) (F : Hp) (σ : St) (H : Hp) (Γ : List Cell) : Prop := XOk Y e ∧ ∃ L, Wk e F L H ∧ Slots Y.g F σ Γ L
section
variable {C : GCtx} {Y : YC} {e : En} {F F' : Hp} {σ : St} {H H' : Hp} {Γ : List Cell}
theorem State.grow (s : State Y e F σ H Γ) (g : Gr F H F' H') : State Y e F' σ H' Γ := by
  obtain ⟨hx, L, k, sl⟩ := s
  exact ⟨hx, L, k.trans0 g, sl.mono g.ff⟩
theorem State.base (s : State Y e F σ H Γ) : Gr F H F H := let ⟨_, _, k, _⟩ := s; k.base
theorem State.fh (s : State Y e F σ H Γ) : Same F H := let ⟨_, _, k, _⟩ := s; k.fh
theorem State.val {α : Type} {d : Dat α} {x : α} {i : Nat} (s : State Y e F σ H Γ) (h : Γ[i]? = some (.val d x)) : ∃ v, σ[i]? = some (some v) ∧ d.rep Y.g F v x := by
  obtain ⟨hx, L, k, sl⟩ := s
  obtain ⟨o, L1, Li, L2, e1, _, ⟨_, v, rfl, r⟩, _⟩ := sl.get h
  exact ⟨v, e1, r⟩
theorem State.own {α : Type} {d : Dat α} {od : OD α} {x : α} {i : Nat} {pin : Option V} (s : State Y e F σ H Γ) (h : Γ[i]? = some (.own d od pin x)) : ∃ v, σ[i]? = some (some v) ∧ d.rep Y.g H v x := by
  obtain ⟨hx, L, k, sl⟩ := s
  obtain ⟨o, L1, Li, L2, e1, e2, ⟨v, rfl, _, r⟩, _⟩ := sl.get h
  exact ⟨v, e1, od.view r k.fh fun p hp => (k.ow p (by rw [e2]; exact List.mem_append_left _ (List.mem_append_right _ hp))).2.1⟩
/-- a slot is stored -/
theorem State.set {c c' : Cell} {i : Nat} {v : V} {L' : LO} (s : State Y e F σ H Γ) (h : Γ[i]? = some c) (g : Wk ⟨F, H, []⟩ F' L' H') (r : CellOk Y.g F' (some v) c' L') : State Y e F' (σ.set i (some v)) H' (Γ.set i c') := by
  obtain ⟨hx, L, k, sl⟩ := s
  obtain ⟨o, L1, Li, L2, e1, e2, _, f⟩ := sl.get h
  refine ⟨hx, L1 ++ L' ++ L2, ?_, f F' (some v) c' L' g.ff r⟩
  have q := k.trans g
  rw [e2] at q
  have q2 : Wk e F' ((L' ++ L1) ++ Li ++ L2) H' := by simpa [List.append_assoc] using q
  have q3 := q2.drop
  have q4 : Wk e F' (L' ++ (L1 ++ L2)) H' := by simpa [List.append_assoc] using q3
  exact q4.back
/-- a slot is forgotten -/
theorem State.forget {i : Nat} {c : Cell} {o : Option V} (s : State Y e F σ H Γ) (h : Γ[i]? = some c) : State Y e F (σ.set i o) H (Γ.set i .no) := by
  obtain ⟨hx, L, k, sl⟩ := s
  obtain ⟨o1, L1, Li, L2, e1, e2, _, f⟩ := sl.get h
  rw [e2] at k
  have q := f F o .no [] (Same.refl _) rfl
  rw [List.append_nil] at q
  exact ⟨hx, L1 ++ L2, k.drop, q⟩
theorem State.hide {i : Nat} {c : Cell} (s : State Y e F σ H Γ) (h : Γ[i]? = some c) : State Y e F σ H (Γ.set i .no) := by
  obtain ⟨hx, L, k, sl⟩ := s
  obtain ⟨o1, L1, Li, L2, e1, e2, _, f⟩ := sl.get h
  rw [e2] at k
  have q := f F o1 .no [] (Same.refl _) rfl
  rw [List.append_nil] at q
  have z : σ.set i o1 = σ := by
    apply List.ext_getElem?
    intro j
    by_cases hj : i = j
    · subst hj
      obtain ⟨hlt, hv⟩ := List.getElem?_eq_some_iff.mp e1
      rw [List.getElem?_set_self hlt, e1]
    · rw [List.getElem?_set_ne hj]
  rw [z] at q
  exact ⟨hx, L1 ++ L2, k.drop, q⟩
end
end G

/-! G2: data, judgements, the rules for expressions. -/
namespace G
open PySem L2

theorem Wk.hh0 {F H F' H' : Hp} {L : LO} (g : Wk ⟨F, H, []⟩ F' L H') : Same H H' := fun a o h => g.hh a o (fun z => nomatch z) h

/-! ### scalars -/
instance dInt : Dat Int := ⟨fun _ _ v x => v = .int x, fun _ h => h⟩
instance dBool : Dat Bool := ⟨fun _ _ v x => v = .bl x, fun _ h => h⟩
instance dStr : Dat Str := ⟨fun _ _ v x => v = .str x, fun _ h => h⟩
instance dUnit : Dat Unit := ⟨fun _ _ v _ => v = .non, fun _ h => h⟩
instance imInt : Imm Int := ⟨fun _ h => h⟩
instance imBool : Imm Bool := ⟨fun _ h => h⟩
instance imStr : Imm Str := ⟨fun _ h => h⟩
instance imUnit : Imm Unit := ⟨fun _ h => h⟩
/-- None or a value -/
inductive Opt (α : Type) where
  | none : Opt α
  | some (x : α) : Opt α
  deriving DecidableEq
instance dOpt {α : Type} [d : Dat α] : Dat (Opt α) := ⟨fun C F v x => match x with | .none => v = .non | .some y => d.rep C F v y, fun {C F F' v x} s h => match x, h with | .none, h => h | .some _, h => d.mono s h⟩
instance imOpt {α : Type} [d : Dat α] [i : Imm α] : Imm (Opt α) := ⟨fun {C F H v x} t h => match x, h with | .none, h => h | .some _, h => i.imm t h⟩

/-! ### lists -/
def Reps {α : Type} (d : Dat α) (C : GCtx) (F : Hp) : List V → List α → Prop
  | [], [] => True
  | v :: vs, x :: xs => d.rep C F v x ∧ Reps d C F vs xs
  | _, _ => False
section
variable {α : Type} {d : Dat α} {C : GCtx} {Y : YC} {F F' : Hp}
theorem Reps.mono (s : Same F F') : ∀ {vs : List V} {xs : List α}, Reps d C F vs xs → Reps d C F' vs xs
  | [], [], _ => trivial
  | _ :: _, _ :: _, h => ⟨d.mono s h.1, Reps.mono s h.2⟩
  | [], _ :: _, h => h.elim
  | _ :: _, [], h => h.elim
theorem Reps.len : ∀ {vs : List V} {xs : List α}, Reps d C F vs xs → vs.length = xs.length
  | [], [], _ => rfl
  | _ :: _, _ :: _, h => by simp [Reps.len h.2]
  | [], _ :: _, h => h.elim
  | _ :: _, [], h => h.elim
theorem Reps.get : ∀ {vs : List V} {xs : List α} {i : Nat} {x : α}, Reps d C F vs xs → xs[i]? = some x → ∃ v, vs[i]? = some v ∧ d.rep C F v x
  | [], [], i, x, _, h => by cases i <;> cases h
  | v :: vs, y :: xs, 0, x, h, e => by cases (Option.some.inj e : y = x); exact ⟨v, rfl, h.1⟩
  | v :: vs, y :: xs, i + 1, x, h, e => Reps.get (i := i) h.2 e
  | [], _ :: _, _, _, h, _ => h.elim
  | _ :: _, [], _, _, h, _ => h.elim
theorem Reps.getV : ∀ {vs : List V} {xs : List α} {i : Nat} {v : V}, Reps d C F vs xs → vs[i]? = some v → ∃ x, xs[i]? = some x ∧ d.rep C F v x
  | [], [], i, x, _, h => by cases i <;> cases h
  | v :: vs, y :: xs, 0, x, h, e => by cases (Option.some.inj e : v = x); exact ⟨y, rfl, h.1⟩
  | v :: vs, y :: xs, i + 1, x, h, e => Reps.getV (i := i) h.2 e
  | [], _ :: _, _, _, h, _ => h.elim
  | _ :: _, [], _, _, h, _ => h.elim
theorem Reps.append : ∀ {vs ws : List V} {xs ys : List α}, Reps d C F vs xs → Reps d C F ws ys → Reps d C F (vs ++ ws) (xs ++ ys)
  | [], _, [], _, _, h => h
  | _ :: _, _, _ :: _, _, h, g => ⟨h.1, Reps.append h.2 g⟩
  | [], _, _ :: _, _, h, _ => h.elim
  | _ :: _, _, [], _, h, _ => h.elim
theorem Reps.one {v : V} {x : α} (h : d.rep C F v x) : Reps d C F [v] [x] := ⟨h, trivial⟩
theorem Reps.take : ∀ {vs : List V} {xs : List α} (n : Nat), Reps d C F vs xs → Reps d C F (vs.take n) (xs.take n)
  | [], [], n, _ => by simp [Reps]
  | _ :: _, _ :: _, 0, _ => trivial
  | _ :: _, _ :: _, n + 1, h => ⟨h.1, Reps.take n h.2⟩
  | [], _ :: _, _, h => h.elim
  | _ :: _, [], _, h => h.elim
theorem Reps.drop : ∀ {vs : List V} {xs : List α} (n : Nat), Reps d C F vs xs → Reps d C F (vs.drop n) (xs.drop n)
  | [], [], n, _ => by simp [Reps]
  | _ :: _, _ :: _, 0, h => h
  | _ :: _, _ :: _, n + 1, h => Reps.drop n h.2
  | [], _ :: _, _, h => h.elim
  | _ :: _, [], _, h => h.elim
theorem Reps.set {v : V} {x : α} : ∀ {vs : List V} {xs : List α} (i : Nat), Reps d C F vs xs → d.rep C F v x → Reps d C F (vs.set i v) (xs.set i x)
  | [], [], _, _, _ => trivial
  | _ :: _, _ :: _, 0, h, g => ⟨g, h.2⟩
  | _ :: _, _ :: _, i + 1, h, g => ⟨h.1, Reps.set i h.2 g⟩
  | [], _ :: _, _, h, _ => h.elim
  | _ :: _, [], _, h, _ => h.elim
theorem Reps.ints : ∀ {vs : List V} {xs : List Int}, Reps dInt C F vs xs → vs = xs.map V.int
  | [], [], _ => rfl
  | _ :: _, _ :: _, h => by rw [Reps.ints h.2, show _ = V.int _ from h.1]; rfl
  | [], _ :: _, h => h.elim
  | _ :: _, [], h => h.elim
theorem Reps.ofInts : ∀ (xs : List Int), Reps dInt C F (xs.map V.int) xs
  | [] => trivial
  | _ :: xs => ⟨rfl, Reps.ofInts xs⟩
theorem Reps.bools : ∀ {vs : List V} {xs : List Bool}, Reps dBool C F vs xs → vs = xs.map V.bl
  | [], [], _ => rfl
  | _ :: _, _ :: _, h => by rw [Reps.bools h.2, show _ = V.bl _ from h.1]; rfl
  | [], _ :: _, h => h.elim
  | _ :: _, [], h => h.elim
theorem Reps.imm [i : @Imm α d] {H : Hp} (t : ∀ a xs, H a = some (.tup xs) → F a = some (.tup xs)) : ∀ {vs : List V} {xs : List α}, Reps d C H vs xs → Reps d C F vs xs
  | [], [], _ => trivial
  | _ :: _, _ :: _, h => ⟨i.imm t h.1, Reps.imm t h.2⟩
  | [], _ :: _, h => h.elim
  | _ :: _, [], h => h.elim
end
/-- a tuple that stands still: frozen, or of the written part -/
def TpA (K : PySem.W.Frag) (F : Hp) (a : Addr) (xs : List V) : Prop := F a = some (.tup xs) ∨ (SqT K (fun _ => none) a xs ∧ xs ≠ [] ∧ ∀ x ∈ xs, ∃ t, x = V.str t)
theorem TpA.mono {K : PySem.W.Frag} {F F' : Hp} {a : Addr} {xs : List V} (s : Same F F') (h : TpA K F a xs) : TpA K F' a xs := h.imp (s a _) id
theorem TpA.sq {K : PySem.W.Frag} {F : Hp} {a : Addr} {xs : List V} (h : TpA K F a xs) : SqT K F a xs := by
  rcases h with h | ⟨h, _⟩
  · exact .inl (.inl h)
  · rcases h with (h | ⟨_, h⟩) | h
    · cases h
    · cases h
    · exact .inr h
/-- a list that is tracked -/
theorem Same.rd {H H' : Hp} {a : Addr} {u : HO} (e : Same H H') (h : Rd H a u) : Rd H' a u := h.imp (e _ _) fun ⟨o, h⟩ => ⟨o, e _ _ h⟩
instance {K : PySem.W.Frag} {H : Hp} {a : Addr} {xs : List V} : Coe (Rd H a (.lst xs)) (SqL K H a xs) := ⟨.inl⟩
instance dList {α : Type} [d : Dat α] : Dat (List α) :=
  ⟨fun C F v xs => ∃ a vs, v = .ref a ∧ Rd F a (.lst vs) ∧ Reps d C F vs xs, fun s ⟨a, vs, e, h, r⟩ => ⟨a, vs, e, Same.rd s h, r.mono s⟩⟩
instance oList {α : Type} [d : Dat α] : OD (List α) where
  orep C F v xs L := ∃ a vs, v = .ref a ∧ L = [(a, .lst vs)] ∧ Reps d C F vs xs
  omono s := fun ⟨a, vs, e, h, r⟩ => ⟨a, vs, e, h, r.mono s⟩
  view := fun ⟨a, vs, e, h, r⟩ s k => ⟨a, vs, e, .inl (k (a, .lst vs) (by rw [h]; exact List.mem_cons_self)), r.mono s⟩
/-- a tuple of any length, its items alike -/
structure Tup (α : Type) where
  l : List α
  deriving DecidableEq
instance dTup {α : Type} [d : Dat α] : Dat (Tup α) :=
  ⟨fun C F v xs => ∃ a vs, v = .ref a ∧ TpA C.K F a vs ∧ Reps d C F vs xs.l, fun s ⟨a, vs, e, h, r⟩ => ⟨a, vs, e, h.mono s, r.mono s⟩⟩
instance imTup {α : Type} [d : Dat α] [i : Imm α] : Imm (Tup α) := ⟨fun t ⟨a, vs, e, h, r⟩ => ⟨a, vs, e, h.imp (t a _) id, r.imm t⟩⟩
instance dPair {α β : Type} [d1 : Dat α] [d2 : Dat β] : Dat (α × β) :=
  ⟨fun C F v x => ∃ a v1 v2, v = .ref a ∧ TpA C.K F a [v1, v2] ∧ d1.rep C F v1 x.1 ∧ d2.rep C F v2 x.2, fun s ⟨a, v1, v2, e, h, r1, r2⟩ => ⟨a, v1, v2, e, h.mono s, d1.mono s r1, d2.mono s r2⟩⟩
instance imPair {α β : Type} [d1 : Dat α] [d2 : Dat β] [i1 : Imm α] [i2 : Imm β] : Imm (α × β) := ⟨fun t ⟨a, v1, v2, e, h, r1, r2⟩ => ⟨a, v1, v2, e, h.imp (t a _) id, i1.imm t r1, i2.imm t r2⟩⟩
structure T3 (α β γ : Type) where
  a : α
  b : β
  c : γ
  deriving DecidableEq
structure T4 (α β γ δ : Type) where
  a : α
  b : β
  c : γ
  d : δ
  deriving DecidableEq
instance dT3 {α β γ : Type} [d1 : Dat α] [d2 : Dat β] [d3 : Dat γ] : Dat (T3 α β γ) :=
  ⟨fun C F v x => ∃ a v1 v2 v3, v = .ref a ∧ TpA C.K F a [v1, v2, v3] ∧ d1.rep C F v1 x.a ∧ d2.rep C F v2 x.b ∧ d3.rep C F v3 x.c,
    fun s ⟨a, v1, v2, v3, e, h, r1, r2, r3⟩ => ⟨a, v1, v2, v3, e, h.mono s, d1.mono s r1, d2.mono s r2, d3.mono s r3⟩⟩
instance imT3 {α β γ : Type} [d1 : Dat α] [d2 : Dat β] [d3 : Dat γ] [i1 : Imm α] [i2 : Imm β] [i3 : Imm γ] : Imm (T3 α β γ) :=
  ⟨fun t ⟨a, v1, v2, v3, e, h, r1, r2, r3⟩ => ⟨a, v1, v2, v3, e, h.imp (t a _) id, i1.imm t r1, i2.imm t r2, i3.imm t r3⟩⟩
instance dT4 {α β γ δ : Type} [d1 : Dat α] [d2 : Dat β] [d3 : Dat γ] [d4 : Dat δ] : Dat (T4 α β γ δ) :=
  ⟨fun C F v x => ∃ a v1 v2 v3 v4, v = .ref a ∧ TpA C.K F a [v1, v2, v3, v4] ∧ d1.rep C F v1 x.a ∧ d2.rep C F v2 x.b ∧ d3.rep C F v3 x.c ∧ d4.rep C F v4 x.d,
    fun s ⟨a, v1, v2, v3, v4, e, h, r1, r2, r3, r4⟩ => ⟨a, v1, v2, v3, v4, e, h.mono s, d1.mono s r1, d2.mono s r2, d3.mono s r3, d4.mono s r4⟩⟩
instance imT4 {α β γ δ : Type} [d1 : Dat α] [d2 : Dat β] [d3 : Dat γ] [d4 : Dat δ] [i1 : Imm α] [i2 : Imm β] [i3 : Imm γ] [i4 : Imm δ] : Imm (T4 α β γ δ) :=
  ⟨fun t ⟨a, v1, v2, v3, v4, e, h, r1, r2, r3, r4⟩ => ⟨a, v1, v2, v3, v4, e, h.imp (t a _) id, i1.imm t r1, i2.imm t r2, i3.imm t r3, i4.imm t r4⟩⟩

/-! ### judgements -/
/-- the term evaluates to a value that k is true of, frozen from now on -/
def W (Y : YC) (te : TE) (Γ : List Cell) {α : Type} (d : Dat α) (k : α → Prop) : Prop := ∀ (e : En) (F : Hp) (σ : St) (H : Hp), State Y e F σ H Γ → ∀ Q : VK, (∀ v F' H' x, k x → Gr F H F' H' → d.rep Y.g F' v x → Q v H') → te σ H Q
/-- .. that may be read until the next store -/
def R (Y : YC) (te : TE) (Γ : List Cell) {α : Type} (d : Dat α) (k : α → Prop) : Prop := ∀ (e : En) (F : Hp) (σ : St) (H : Hp), State Y e F σ H Γ → ∀ Q : VK, (∀ v F' H' x, k x → Gr F H F' H' → d.rep Y.g H' v x → Q v H') → te σ H Q
/-- .. that is new, and owned -/
def O (Y : YC) (te : TE) (Γ : List Cell) {α : Type} {d : Dat α} (od : OD α) (k : α → Prop) : Prop := ∀ (e : En) (F : Hp) (σ : St) (H : Hp), State Y e F σ H Γ → ∀ Q : VK, (∀ v F' H' L' x, k x → Wk ⟨F, H, []⟩ F' L' H' → od.orep Y.g F' v x L' → Q v H') → te σ H Q
def T (Y : YC) (t : TT) (Γ : List Cell) (k : Bool → Prop) : Prop := ∀ (e : En) (F : Hp) (σ : St) (H : Hp), State Y e F σ H Γ → ∀ Q : Bool → Hp → Prop, (∀ b F' H', k b → Gr F H F' H' → Q b H') → t σ H Q
def WA (Y : YC) (ta : TA) (Γ : List Cell) (k : List Cell → Prop) : Prop := ∀ (e : En) (F : Hp) (σ : St) (H : Hp), State Y e F σ H Γ → ∀ Q : List V → Hp → Prop, (∀ vs F' H' cs, k cs → Gr F H F' H' → Slots Y.g F' (vs.map some) cs [] → Q vs H') → ta σ H Q

section
variable {C : GCtx} {Y : YC} {Γ : List Cell} {te ta tb tc : TE} {t u : TT} {α β γ : Type} {d1 : Dat α} {d : Dat α} {d2 : Dat β} {d3 : Dat γ}

theorem r_of_w {k : α → Prop} (h : W Y te Γ d k) : R Y te Γ d k := fun e F σ H s Q q => h e F σ H s Q fun v F' H' x kx g r => q v F' H' x kx g (d.mono g.fh r)
theorem w_mono {k k' : α → Prop} (h : W Y te Γ d k) (m : ∀ x, k x → k' x) : W Y te Γ d k' := fun e F σ H s Q q => h e F σ H s Q fun v F' H' x kx g r => q v F' H' x (m x kx) g r
theorem t_mono {k k' : Bool → Prop} (h : T Y t Γ k) (m : ∀ x, k x → k' x) : T Y t Γ k' := fun e F σ H s Q q => h e F σ H s Q fun b F' H' kx g => q b F' H' (m b kx) g
/-- what is owned and new is frozen at once -/
theorem w_of_o {od : @OD α d} {k : α → Prop} (h : O Y te Γ od k) : W Y te Γ d k := fun e F σ H s Q q => h e F σ H s Q fun v F' H' L' x kx g r => by
  have g1 : Wk ⟨F, H, []⟩ F' (L' ++ []) H' := by rw [List.append_nil]; exact g
  have g2 : Gr F H (plus F' L') H' := g1.freeze fun p hp z => nomatch z
  refine q v _ H' x kx g2 (od.view r (same_plus (fun p hp => (g.ow p hp).1) g.nd) (plus_get (fun p hp => (g.ow p hp).1) g.nd))

/-! names and constants -/
theorem w_var {i : Nat} {x : α} {k : α → Prop} (h : Γ[i]? = some (.val d x)) (hk : k x) : W Y (tVar i) Γ d k := fun e F σ H s Q q => by
  obtain ⟨v, e1, r⟩ := s.val h
  exact ⟨v, e1, q v F H x hk s.base r⟩
theorem r_varO {od : @OD α d} {pin : Option V} {i : Nat} {x : α} {k : α → Prop} (h : Γ[i]? = some (.own d od pin x)) (hk : k x) : R Y (tVar i) Γ d k := fun e F σ H s Q q => by
  obtain ⟨v, e1, r⟩ := s.own h
  exact ⟨v, e1, q v F H x hk s.base r⟩
theorem w_int {n : Int} {k : Int → Prop} (hk : k n) : W Y (tC (.int n)) Γ dInt k := fun e F σ H s Q q => q _ F H n hk s.base rfl
theorem w_bl {n : Bool} {k : Bool → Prop} (hk : k n) : W Y (tC (.bl n)) Γ dBool k := fun e F σ H s Q q => q _ F H n hk s.base rfl
theorem w_str {n : Str} {k : Str → Prop} (hk : k n) : W Y (tC (.str n)) Γ dStr k := fun e F σ H s Q q => q _ F H n hk s.base rfl
/-! two operands, a scalar back -/
theorem w_ii {r : R2} {f : Int → Int → γ} {P : Int → Int → Prop} {ec : γ → V} {k : γ → Prop} (hd : ∀ F z, d3.rep Y.g F (ec z) z) (hr : ∀ i j H (Q : VK), P i j → Q (ec (f i j)) H → r (.int i) (.int j) H Q)
    (h : R Y ta Γ dInt fun x => R Y tb Γ dInt fun y => P x y ∧ k (f x y)) : W Y (tOp r ta tb) Γ d3 k :=
  fun e F σ H s Q q => h e F σ H s _ fun v1 F1 H1 x h1 g1 r1 => h1 e F1 σ H1 (s.grow g1) _ fun v2 F2 H2 y ⟨p, kz⟩ g2 r2 => by
    cases (show v1 = .int x from r1)
    cases (show v2 = .int y from r2)
    exact hr x y H2 Q p (q _ F2 H2 _ kz (g1.trans0 g2) (hd F2 _))
theorem w_i0 {r : R2} {f : Int → Int → γ} {ec : γ → V} {k : γ → Prop} (hd : ∀ F z, d3.rep Y.g F (ec z) z) (hr : ∀ i j H (Q : VK), Q (ec (f i j)) H → r (.int i) (.int j) H Q)
    (h : R Y ta Γ dInt fun x => R Y tb Γ dInt fun y => k (f x y)) : W Y (tOp r ta tb) Γ d3 k :=
  fun e F σ H s Q q => h e F σ H s _ fun v1 F1 H1 x h1 g1 r1 => h1 e F1 σ H1 (s.grow g1) _ fun v2 F2 H2 y kz g2 r2 => by
    cases (show v1 = .int x from r1)
    cases (show v2 = .int y from r2)
    exact hr x y H2 Q (q _ F2 H2 _ kz (g1.trans0 g2) (hd F2 _))
section
variable {k : Int → Prop} {kb : Bool → Prop}
theorem w_add (h : R Y ta Γ dInt fun x => R Y tb Γ dInt fun y => k (x + y)) : W Y (tOp (rI0 fun i j => .int (i + j)) ta tb) Γ dInt k := w_i0 (ec := V.int) (fun _ _ => rfl) (fun i j H Q q => ⟨i, j, rfl, rfl, q⟩) h
theorem w_sub (h : R Y ta Γ dInt fun x => R Y tb Γ dInt fun y => k (x - y)) : W Y (tOp (rI0 fun i j => .int (i - j)) ta tb) Γ dInt k := w_i0 (ec := V.int) (fun _ _ => rfl) (fun i j H Q q => ⟨i, j, rfl, rfl, q⟩) h
theorem w_mul (h : R Y ta Γ dInt fun x => R Y tb Γ dInt fun y => CMul x y ∧ k (x * y)) : W Y (tOp (rI CMul fun i j => .int (i * j)) ta tb) Γ dInt k := w_ii (ec := V.int) (fun _ _ => rfl) (fun i j H Q p q => ⟨i, j, rfl, rfl, p, q⟩) h
theorem w_mod (h : R Y ta Γ dInt fun x => R Y tb Γ dInt fun y => 0 < y ∧ k (x % y)) : W Y (tOp (rI (fun _ j => 0 < j) fun i j => .int (i % j)) ta tb) Γ dInt k := w_ii (P := fun _ j => 0 < j) (ec := V.int) (fun _ _ => rfl) (fun i j H Q p q => ⟨i, j, rfl, rfl, p, q⟩) h
theorem w_fdiv (h : R Y ta Γ dInt fun x => R Y tb Γ dInt fun y => CDiv x y ∧ k (x / y)) : W Y (tOp (rI CDiv fun i j => .int (i / j)) ta tb) Γ dInt k := w_ii (ec := V.int) (fun _ _ => rfl) (fun i j H Q p q => ⟨i, j, rfl, rfl, p, q⟩) h
theorem w_pow (h : R Y ta Γ dInt fun x => R Y tb Γ dInt fun y => CPow x y ∧ k (x ^ y.toNat)) : W Y (tOp (rI CPow fun i j => .int (i ^ j.toNat)) ta tb) Γ dInt k := w_ii (ec := V.int) (fun _ _ => rfl) (fun i j H Q p q => ⟨i, j, rfl, rfl, p, q⟩) h
theorem w_lt (h : R Y ta Γ dInt fun x => R Y tb Γ dInt fun y => kb (decide (x < y))) : W Y (tOp (rI0 fun i j => .bl (decide (i < j))) ta tb) Γ dBool kb := w_i0 (f := fun i j => decide (i < j)) (ec := V.bl) (fun _ _ => rfl) (fun i j H Q q => ⟨i, j, rfl, rfl, q⟩) h
theorem w_gt (h : R Y ta Γ dInt fun x => R Y tb Γ dInt fun y => kb (decide (y < x))) : W Y (tOp (rI0 fun i j => .bl (decide (j < i))) ta tb) Γ dBool kb := w_i0 (f := fun i j => decide (j < i)) (ec := V.bl) (fun _ _ => rfl) (fun i j H Q q => ⟨i, j, rfl, rfl, q⟩) h
theorem w_ge (h : R Y ta Γ dInt fun x => R Y tb Γ dInt fun y => kb (decide (y ≤ x))) : W Y (tOp (rI0 fun i j => .bl (decide (j ≤ i))) ta tb) Γ dBool kb := w_i0 (f := fun i j => decide (j ≤ i)) (ec := V.bl) (fun _ _ => rfl) (fun i j H Q q => ⟨i, j, rfl, rfl, q⟩) h
theorem w_neg (h : R Y ta Γ dInt fun x => k (-x)) : W Y (tUn (rU fun i => .int (-i)) ta) Γ dInt k := fun e F σ H s Q q => h e F σ H s _ fun v F' H' x kx g r => by
  cases (show v = .int x from r)
  exact ⟨x, rfl, q _ F' H' _ kx g rfl⟩
end

/-! tests -/
theorem t_test {k : Bool → Prop} (h : R Y te Γ dBool k) : T Y (tTest te) Γ k := fun e F σ H s Q q => h e F σ H s _ fun v F' H' x kx g r => ⟨x, r, q x F' H' kx g⟩
theorem t_B {k : Bool → Prop} (h : R Y te Γ dBool k) : T Y (tB te) Γ k := fun e F σ H s Q q => h e F σ H s _ fun v F' H' x kx g r => ⟨x, r, q x F' H' kx g⟩
theorem t_not {k : Bool → Prop} (h : T Y t Γ fun b => k (!b)) : T Y (tNot t) Γ k := fun e F σ H s Q q => h e F σ H s _ fun b F' H' kx g => q (!b) F' H' kx g
theorem t_and {k : Bool → Prop} (h : T Y t Γ fun b => (b = true → T Y u Γ k) ∧ (b = false → k false)) : T Y (tAnd t u) Γ k := fun e F σ H s Q q => h e F σ H s _ fun b F' H' kx g => by
  cases b with
  | true => exact kx.1 rfl e F' σ H' (s.grow g) Q fun b F2 H2 kb g2 => q b F2 H2 kb (g.trans0 g2)
  | false => exact q false F' H' (kx.2 rfl) g
theorem t_or {k : Bool → Prop} (h : T Y t Γ fun b => (b = true → k true) ∧ (b = false → T Y u Γ k)) : T Y (tOr t u) Γ k := fun e F σ H s Q q => h e F σ H s _ fun b F' H' kx g => by
  cases b with
  | false => exact kx.2 rfl e F' σ H' (s.grow g) Q fun b F2 H2 kb g2 => q b F2 H2 kb (g.trans0 g2)
  | true => exact q true F' H' (kx.1 rfl) g
/-! values by tests -/
theorem w_andV {k : Bool → Prop} (h : R Y ta Γ dBool fun a => (a = true → W Y tb Γ dBool k) ∧ (a = false → k false)) : W Y (tAndV ta tb) Γ dBool k := fun e F σ H s Q q => h e F σ H s _ fun v F' H' x kx g r => ⟨x, r, by
  cases x with
  | true => exact kx.1 rfl e F' σ H' (s.grow g) Q fun v F2 H2 x kb g2 r => q v F2 H2 x kb (g.trans0 g2) r
  | false => exact q _ F' H' false (kx.2 rfl) g rfl⟩
theorem r_mono {k k' : α → Prop} (h : R Y te Γ d k) (m : ∀ x, k x → k' x) : R Y te Γ d k' := fun e F σ H s Q q => h e F σ H s Q fun v F' H' x kx g r => q v F' H' x (m x kx) g r
theorem w_notV {k : Bool → Prop} (h : R Y ta Γ dBool fun a => k (!a)) : W Y (tNotV ta) Γ dBool k := fun e F σ H s Q q => h e F σ H s _ fun v F' H' x kx g r => ⟨x, r, q _ F' H' (!x) kx g rfl⟩
/-! arguments -/
theorem wa_nil {k : List Cell → Prop} (hk : k []) : WA Y tNil Γ k := fun e F σ H s Q q => q [] F H [] hk s.base .nil
theorem wa_cons {tr : TA} {k : List Cell → Prop} (h : W Y te Γ d fun x => WA Y tr Γ fun cs => k (.val d x :: cs)) : WA Y (tCons te tr) Γ k := fun e F σ H s Q q => h e F σ H s _ fun v F1 H1 x h1 g1 r1 => h1 e F1 σ H1 (s.grow g1) _ fun vs F2 H2 cs kc g2 r2 =>
  q (v :: vs) F2 H2 (.val d x :: cs) kc (g1.trans0 g2) (Slots.cons (L := []) ⟨rfl, v, rfl, d.mono g2.ff r1⟩ r2)

/-! built-ins of numbers -/
theorem w_abs {k : Int → Prop} (h : R Y ta Γ dInt fun x => k (if x < 0 then -x else x)) : W Y (tCB (fun xs H Q => ∃ i, xs = [.int i] ∧ Q (.int (if i < 0 then -i else i)) H) (tCons ta tNil)) Γ dInt k := fun e F σ H s Q q => h e F σ H s _ fun v F' H' x kx g r => by
  cases (show v = .int x from r)
  exact ⟨x, rfl, q _ F' H' _ kx g rfl⟩
theorem w_int1 {k : Int → Prop} (h : R Y ta Γ dInt k) : W Y (tCB (fun xs H Q => (∃ i, xs = [.int i] ∧ Q (.int i) H) ∨ ∃ k, xs = [.bl k] ∧ Q (.int (if k then 1 else 0)) H) (tCons ta tNil)) Γ dInt k := fun e F σ H s Q q => h e F σ H s _ fun v F' H' x kx g r => by
  cases (show v = .int x from r)
  exact .inl ⟨x, rfl, q _ F' H' _ kx g rfl⟩
/-! lists and tuples that are read -/
theorem w_len {k : Int → Prop} (h : R Y ta Γ (dList (d := d)) fun xs => k (xs.length : Int)) : W Y (tCB (fun xs H Q => ∃ p ys, xs = [.ref p] ∧ (SqL Y.K H p ys ∨ SqT Y.K H p ys) ∧ Q (.int ys.length) H) (tCons ta tNil)) Γ dInt k := fun e F σ H s Q q => h e F σ H s _ fun v F' H' x kx g ⟨a, vs, e1, h1, r⟩ => by
  subst e1
  exact ⟨a, vs, rfl, .inl h1, q _ F' H' _ (by rw [r.len]; exact kx) g rfl⟩
theorem w_lenT {k : Int → Prop} (h : R Y ta Γ (dTup (d := d)) fun xs => k (xs.l.length : Int)) : W Y (tCB (fun xs H Q => ∃ p ys, xs = [.ref p] ∧ (SqL Y.K H p ys ∨ SqT Y.K H p ys) ∧ Q (.int ys.length) H) (tCons ta tNil)) Γ dInt k := fun e F σ H s Q q => h e F σ H s _ fun v F' H' x kx g ⟨a, vs, e1, h1, r⟩ => by
  subst e1
  exact ⟨a, vs, rfl, .inr h1.sq, q _ F' H' _ (by rw [r.len]; exact kx) g rfl⟩
theorem atI_rep {F : Hp} {vs : List V} {xs : List α} {i : Int} {x : α} (r : Reps d C F vs xs) (h : atI xs i = some x) : ∃ v, atI vs i = some v ∧ d.rep C F v x := by
  unfold atI at h ⊢
  rw [r.len]
  cases e : ixN xs.length i with
  | none => rw [e] at h; cases h
  | some j => rw [e] at h; exact r.get h
theorem w_ix {k : α → Prop} (h : W Y ta Γ (dList (d := d)) fun xs => R Y tb Γ dInt fun i => ∃ x, atI xs i = some x ∧ k x) : W Y (tOp (rIxL Y.K) ta tb) Γ d k := fun e F σ H s Q q => h e F σ H s _ fun v1 F1 H1 xs h1 g1 ⟨a, vs, e1, hs, r⟩ => h1 e F1 σ H1 (s.grow g1) _ fun v2 F2 H2 i ⟨x, hx, kx⟩ g2 r2 => by
  subst e1
  cases (show v2 = .int i from r2)
  obtain ⟨v, hv, rv⟩ := atI_rep r hx
  exact ⟨a, vs, i, v, rfl, rfl, (g1.fh.trans g2.hh0).seq hs, hv, q _ F2 H2 x kx (g1.trans0 g2) (d.mono g2.ff rv)⟩
theorem w_ixT {k : α → Prop} (h : W Y ta Γ (dTup (d := d)) fun xs => R Y tb Γ dInt fun i => ∃ x, atI xs.l i = some x ∧ k x) : W Y (tOp (rIxT Y.K) ta tb) Γ d k := fun e F σ H s Q q => h e F σ H s _ fun v1 F1 H1 xs h1 g1 ⟨a, vs, e1, hs, r⟩ => h1 e F1 σ H1 (s.grow g1) _ fun v2 F2 H2 i ⟨x, hx, kx⟩ g2 r2 => by
  subst e1
  cases (show v2 = .int i from r2)
  obtain ⟨v, hv, rv⟩ := atI_rep r hx
  exact ⟨a, vs, i, v, rfl, rfl, (hs.mono (g2.ff.trans g2.fh)).sq, hv, q _ F2 H2 x kx (g1.trans0 g2) (d.mono g2.ff rv)⟩
/-- an item of an owned list -/
theorem w_ixO {pin : Option V} {i : Nat} {xs : List α} {k : α → Prop} (h : Γ[i]? = some (.own (dList (d := d)) (oList (d := d)) pin xs)) (hk : R Y tb Γ dInt fun i => ∃ x, atI xs i = some x ∧ k x) : W Y (tOp (rIxL Y.K) (tVar i) tb) Γ d k := fun e F σ H s Q q => by
  obtain ⟨_, L, kw, sl⟩ := id s
  obtain ⟨o, L1, Li, L2, e1, e2, ⟨v, rfl, _, a, vs, rfl, e3, r⟩, _⟩ := sl.get h
  have ha : H a = some (.lst vs) := (kw.ow (a, .lst vs) (by rw [e2, e3]; simp)).2.1
  refine ⟨.ref a, e1, hk e F σ H s _ fun v2 F2 H2 j ⟨x, hx, kx⟩ g2 r2 => ?_⟩
  cases (show v2 = .int j from r2)
  obtain ⟨v, hv, rv⟩ := atI_rep r hx
  exact ⟨a, vs, j, v, rfl, rfl, .inl (.inl (g2.hh0 _ _ ha)), hv, q _ F2 H2 x kx g2 (d.mono g2.ff rv)⟩
/-- .. read for the moment -/
theorem r_ix {k : α → Prop} (h : R Y ta Γ (dList (d := d)) fun xs => R Y tb Γ dInt fun i => ∃ x, atI xs i = some x ∧ k x) : R Y (tOp (rIxL Y.K) ta tb) Γ d k := fun e F σ H s Q q => h e F σ H s _ fun v1 F1 H1 xs h1 g1 ⟨a, vs, e1, hs, r⟩ => h1 e F1 σ H1 (s.grow g1) _ fun v2 F2 H2 i ⟨x, hx, kx⟩ g2 r2 => by
  subst e1
  cases (show v2 = .int i from r2)
  obtain ⟨v, hv, rv⟩ := atI_rep r hx
  exact ⟨a, vs, i, v, rfl, rfl, g2.hh0.seq hs, hv, q _ F2 H2 x kx (g1.trans0 g2) (d.mono g2.hh0 rv)⟩

/-! membership -/
class Flat (α : Type) [d : Dat α] where
  enc : α → V
  isEnc : ∀ {C : GCtx} {F : Hp} {v : V} {x : α}, d.rep C F v x → v = enc x
  flat : ∀ x, flatV (enc x) = true
  eqv : ∀ x y, eqV (enc x) (enc y) = true ↔ x = y
instance fInt : Flat Int := ⟨V.int, fun h => h, fun _ => rfl, fun x y => by simp [eqV]⟩
instance fStr : Flat Str := ⟨V.str, fun h => h, fun _ => rfl, fun x y => by simp [eqV]⟩
theorem Reps.enc [f : @Flat α d] {F : Hp} : ∀ {vs : List V} {xs : List α}, Reps d C F vs xs → vs = xs.map f.enc
  | [], [], _ => rfl
  | _ :: _, _ :: _, h => by rw [Reps.enc h.2, f.isEnc h.1]; rfl
  | [], _ :: _, h => h.elim
  | _ :: _, [], h => h.elim
/-! tuples, lists made -/
theorem Gr.lay {F H : Hp} {p : Addr} {o : HO} (g : Gr F H F H) (hp : H p = none) : Gr F H (upd F p o) (upd H p o) := Wk.lay g hp
theorem w_tup2 {k : α × β → Prop} (h : W Y ta Γ d1 fun x => W Y tb Γ d2 fun y => k (x, y)) : W Y (tTup (tCons ta (tCons tb tNil))) Γ (dPair (d1 := d1) (d2 := d2)) k := fun e F σ H s Q q => h e F σ H s _ fun v1 F1 H1 x h1 g1 r1 => h1 e F1 σ H1 (s.grow g1) _ fun v2 F2 H2 y ky g2 r2 =>
  ⟨show 2 ≤ PySem.sizeLine by decide, fun p hp => by
    have g3 := Gr.lay (o := .tup [v1, v2]) g2.base hp
    exact q _ _ _ (x, y) ky ((g1.trans0 g2).trans0 g3) ⟨p, v1, v2, rfl, .inl upd_same, d1.mono (g2.ff.trans g3.ff) r1, d2.mono g3.ff r2⟩⟩
theorem w_tup4 {δ : Type} {d4 : Dat δ} {td : TE} {k : T4 α β γ δ → Prop} (h : W Y ta Γ d1 fun x => W Y tb Γ d2 fun y => W Y tc Γ d3 fun z => W Y td Γ d4 fun u => k ⟨x, y, z, u⟩) : W Y (tTup (tCons ta (tCons tb (tCons tc (tCons td tNil))))) Γ (dT4 (d1 := d1) (d2 := d2) (d3 := d3) (d4 := d4)) k := fun e F σ H s Q q => h e F σ H s _ fun v1 F1 H1 x h1 g1 r1 => h1 e F1 σ H1 (s.grow g1) _ fun v2 F2 H2 y h2 g2 r2 =>
  h2 e F2 σ H2 ((s.grow g1).grow g2) _ fun v3 F3 H3 z h3 g3 r3 => h3 e F3 σ H3 (((s.grow g1).grow g2).grow g3) _ fun v4 F4 H4 u ku g4 r4 =>
  ⟨show 4 ≤ PySem.sizeLine by decide, fun p hp => by
    have g5 := Gr.lay (o := .tup [v1, v2, v3, v4]) g4.base hp
    exact q _ _ _ ⟨x, y, z, u⟩ ku ((((g1.trans0 g2).trans0 g3).trans0 g4).trans0 g5) ⟨p, v1, v2, v3, v4, rfl, .inl upd_same, d1.mono (((g2.ff.trans g3.ff).trans g4.ff).trans g5.ff) r1, d2.mono ((g3.ff.trans g4.ff).trans g5.ff) r2, d3.mono (g4.ff.trans g5.ff) r3, d4.mono g5.ff r4⟩⟩
/-- items that are alike, for a display -/
def WL (Y : YC) (ta : TA) (Γ : List Cell) {α : Type} (d : Dat α) (k : List α → Prop) : Prop := ∀ (e : En) (F : Hp) (σ : St) (H : Hp), State Y e F σ H Γ → ∀ Q : List V → Hp → Prop, (∀ vs F' H' xs, k xs → Gr F H F' H' → Reps d Y.g F' vs xs → Q vs H') → ta σ H Q
theorem wl_nil {k : List α → Prop} (hk : k []) : WL Y tNil Γ d k := fun e F σ H s Q q => q [] F H [] hk s.base trivial
theorem wl_cons {tr : TA} {k : List α → Prop} (h : W Y te Γ d fun x => WL Y tr Γ d fun xs => k (x :: xs)) : WL Y (tCons te tr) Γ d k := fun e F σ H s Q q => h e F σ H s _ fun v F1 H1 x h1 g1 r1 => h1 e F1 σ H1 (s.grow g1) _ fun vs F2 H2 xs kc g2 r2 =>
  q (v :: vs) F2 H2 (x :: xs) kc (g1.trans0 g2) ⟨d.mono g2.ff r1, r2⟩
theorem o_new {F H : Hp} {L : LO} (g : Wk ⟨F, H, []⟩ F [] H) {p : Addr} {vs : List V} {xs : List α} (hp : H p = none) (r : Reps d C F vs xs) : Wk ⟨F, H, []⟩ F [(p, .lst vs)] (upd H p (.lst vs)) ∧ (oList (d := d)).orep C F (.ref p) xs [(p, .lst vs)] :=
  ⟨g.own hp (fun _ z => by cases z), p, vs, rfl, rfl, r⟩
theorem o_lst {tl : TA} {k : List α → Prop} (h : WL Y tl Γ d fun xs => xs.length ≤ PySem.sizeLine ∧ k xs) : O Y (tLst tl) Γ (oList (d := d)) k := fun e F σ H s Q q => h e F σ H s _ fun vs F' H' xs ⟨hl, kx⟩ g r =>
  ⟨by rw [r.len]; exact hl, fun p hp => by
    obtain ⟨h1, h2⟩ := o_new (L := []) g.base hp r
    have h3 := g.trans h1
    exact q _ F' _ [(p, .lst vs)] xs kx (by simpa using h3) h2⟩
theorem o_nil {k : List α → Prop} (hk : k []) : O Y (tLst tNil) Γ (oList (d := d)) k := o_lst (wl_nil ⟨Nat.zero_le _, hk⟩)
/-- list(xs) -/
theorem o_listOf {k : List α → Prop} (h : W Y ta Γ (dList (d := d)) k) : O Y (tCB (fun xs H Q => ∃ p ys, xs = [.ref p] ∧ (SqL Y.K H p ys ∨ SqT Y.K H p ys) ∧ ∀ l, H l = none → Q (.ref l) (upd H l (.lst ys))) (tCons ta tNil)) Γ (oList (d := d)) k := fun e F σ H s Q q => h e F σ H s _ fun v F' H' xs kx g ⟨a, vs, e1, hs, r⟩ => by
  subst e1
  refine ⟨a, vs, rfl, .inl (g.fh.seq hs), fun l hl => ?_⟩
  obtain ⟨h1, h2⟩ := o_new (L := []) g.base hl r
  exact q _ F' _ _ xs kx (by simpa using g.trans h1) h2
theorem o_listOfT {k : List α → Prop} (h : W Y ta Γ (dTup (d := d)) fun xs => k xs.l) : O Y (tCB (fun xs H Q => ∃ p ys, xs = [.ref p] ∧ (SqL Y.K H p ys ∨ SqT Y.K H p ys) ∧ ∀ l, H l = none → Q (.ref l) (upd H l (.lst ys))) (tCons ta tNil)) Γ (oList (d := d)) k := fun e F σ H s Q q => h e F σ H s _ fun v F' H' xs kx g ⟨a, vs, e1, hs, r⟩ => by
  subst e1
  refine ⟨a, vs, rfl, .inr (hs.mono g.fh).sq, fun l hl => ?_⟩
  obtain ⟨h1, h2⟩ := o_new (L := []) g.base hl r
  exact q _ F' _ _ xs.l kx (by simpa using g.trans h1) h2
/-- tuple(xs) -/
theorem w_tupOf {k : Tup α → Prop} (h : W Y ta Γ (dList (d := d)) fun xs => k ⟨xs⟩) : W Y (tCB (fun xs H Q => ∃ p ys, xs = [.ref p] ∧ ((SqL Y.K H p ys ∧ ∀ l, H l = none → Q (.ref l) (upd H l (.tup ys))) ∨ (SqT Y.K H p ys ∧ Q (.ref p) H))) (tCons ta tNil)) Γ (dTup (d := d)) k := fun e F σ H s Q q => h e F σ H s _ fun v F' H' xs kx g ⟨a, vs, e1, hs, r⟩ => by
  subst e1
  refine ⟨a, vs, rfl, .inl ⟨g.fh.seq hs, fun l hl => ?_⟩⟩
  have g4 := Gr.lay (o := .tup vs) g.base hl
  exact q _ _ _ ⟨xs⟩ kx (g.trans0 g4) ⟨l, vs, rfl, .inl upd_same, r.mono g4.ff⟩
end
end G

/-! G3: statements, loops, calls, comprehensions. -/
namespace G
open PySem L2

/-! ### the state, more -/
section
variable {C : GCtx} {Y : YC} {e : En} {F F' : Hp} {σ : St} {H H' : Hp} {Γ : List Cell}
theorem State.mut {α : Type} {d : Dat α} {od : OD α} {x : α} {i : Nat} {pin : Option V} (s : State Y e F σ H Γ) (h : Γ[i]? = some (.own d od pin x)) : ∃ v Li rest, σ[i]? = some (some v) ∧ od.orep Y.g F v x Li ∧ Wk e F (Li ++ rest) H ∧
    ∀ F' H' Li' x', Same F F' → Wk e F' (Li' ++ rest) H' → od.orep Y.g F' v x' Li' → State Y e F' σ H' (Γ.set i (.own d od pin x')) := by
  obtain ⟨hx, L, k, sl⟩ := s
  obtain ⟨o, L1, Li, L2, e1, e2, ⟨v, rfl, hp, r⟩, f⟩ := sl.get h
  subst e2
  refine ⟨v, Li, L1 ++ L2, e1, r, k.front, fun F' H' Li' x' s' k' r' => ⟨hx, L1 ++ Li' ++ L2, k'.back, ?_⟩⟩
  have q := f F' (some v) (.own d od pin x') Li' s' ⟨v, rfl, hp, r'⟩
  have z : σ.set i (some v) = σ := by
    apply List.ext_getElem?
    intro j
    by_cases hj : i = j
    · subst hj
      obtain ⟨hlt, hv⟩ := List.getElem?_eq_some_iff.mp e1
      rw [List.getElem?_set_self hlt, e1]
    · rw [List.getElem?_set_ne hj]
  rw [z] at q
  exact q
/-- what is owned is frozen -/
theorem State.frz {α : Type} {d : Dat α} {od : OD α} {x : α} {i : Nat} (s : State Y e F σ H Γ) (hM : e.M = []) (h : Γ[i]? = some (.own d od none x)) : ∃ F', Same F F' ∧ State Y e F' σ H (Γ.set i (.val d x)) := by
  obtain ⟨hx, L, k, sl⟩ := s
  obtain ⟨o, L1, Li, L2, e1, e2, ⟨v, rfl, hp, r⟩, f⟩ := sl.get h
  subst e2
  have kf := k.front
  have ff : ∀ p ∈ Li, F p.1 = none := fun p hp => (kf.ow p (List.mem_append_left _ hp)).1
  have nd : (Li.map Prod.fst).Nodup := by
    have := kf.nd
    rw [List.map_append] at this
    exact (List.nodup_append.mp this).1
  have k2 := kf.freeze fun p _ z => by rw [hM] at z; cases z
  have sm := same_plus ff nd
  refine ⟨plus F Li, sm, hx, L1 ++ L2, k2, ?_⟩
  have q := f (plus F Li) (some v) (.val d x) [] sm ⟨rfl, v, rfl, od.view r sm (plus_get ff nd)⟩
  have z : σ.set i (some v) = σ := by
    apply List.ext_getElem?
    intro j
    by_cases hj : i = j
    · subst hj
      obtain ⟨hlt, hv⟩ := List.getElem?_eq_some_iff.mp e1
      rw [List.getElem?_set_self hlt, e1]
    · rw [List.getElem?_set_ne hj]
  rw [z, List.append_nil] at q
  exact q
end

/-! ### statements -/
structure Ks where
  nx : List Cell → Prop
  rt : Cell → List Cell → Prop
  bk : List Cell → Prop
  ct : List Cell → Prop
structure Cont (Y : YC) (e : En) (k : Ks) (D : Ends) : Prop where
  nx : ∀ F σ H Γ, k.nx Γ → State Y e F σ H Γ → D.nx σ H
  rt : ∀ F σ H Γ v c L L', k.rt c Γ → Wk e F (L ++ L') H → CellOk Y.g F (some v) c L → Slots Y.g F σ Γ L' → D.rt v H
  bk : ∀ F σ H Γ, k.bk Γ → State Y e F σ H Γ → D.bk σ H
  ct : ∀ F σ H Γ, k.ct Γ → State Y e F σ H Γ → D.ct σ H
def Z (Y : YC) (ts : TS) (Γ : List Cell) (k : Ks) : Prop := ∀ (e : En) (F : Hp) (σ : St) (H : Hp) (D : Ends), e.M = [] → State Y e F σ H Γ → Cont Y e k D → ts D σ H
/-- a target takes x -/
def A (Y : YC) (g : TG) (Γ : List Cell) {α : Type} (d : Dat α) (x : α) (k : List Cell → Prop) : Prop := ∀ (e : En) (F : Hp) (σ : St) (H : Hp) (v : V), State Y e F σ H Γ → d.rep Y.g F v x → ∀ Q : St → Hp → Prop, (∀ σ' Γ', k Γ' → State Y e F σ' H Γ' → Q σ' H) → g v σ H Q

section
variable {C : GCtx} {Y : YC} {Γ : List Cell} {te ta tb tc : TE} {t u : TT} {α β γ δ : Type} {d1 : Dat α} {d : Dat α} {d2 : Dat β} {d3 : Dat γ} {d4 : Dat δ} {k : Ks} {t1 t2 ts : TS} {g g1 g2 g3 g4 : TG}

theorem z_seq (h : Z Y t1 Γ { k with nx := fun Γ' => Z Y t2 Γ' k }) : Z Y (tSeq t1 t2) Γ k := fun e F σ H D hM s c =>
  h e F σ H { D with nx := t2 D } hM s ⟨fun F σ H Γ q s' => q e F σ H D hM s' c, c.rt, c.bk, c.ct⟩
theorem z_next (h : k.nx Γ) : Z Y tNext Γ k := fun e F σ H D hM s c => c.nx F σ H Γ h s
theorem z_mono {k' : Ks} (h : Z Y ts Γ k') (n : ∀ Γ, k'.nx Γ → k.nx Γ) (r : ∀ c Γ, k'.rt c Γ → k.rt c Γ) (b : ∀ Γ, k'.bk Γ → k.bk Γ) (c : ∀ Γ, k'.ct Γ → k.ct Γ) : Z Y ts Γ k := fun e F σ H D hM s cc =>
  h e F σ H D hM s ⟨fun F σ H Γ q => cc.nx F σ H Γ (n Γ q), fun F σ H Γ v x L L' q => cc.rt F σ H Γ v x L L' (r x Γ q), fun F σ H Γ q => cc.bk F σ H Γ (b Γ q), fun F σ H Γ q => cc.ct F σ H Γ (c Γ q)⟩
/-- what is owned may be frozen anywhere -/
theorem z_frz {od : @OD α d} {x : α} (i : Nat) (hi : Γ[i]? = some (.own d od none x)) (h : Z Y ts (Γ.set i (.val d x)) k) : Z Y ts Γ k := fun e F σ H D hM s c => by
  obtain ⟨F', sm, s'⟩ := s.frz hM hi
  exact h e F' σ H D hM s' c
theorem z_forget {c0 : Cell} (i : Nat) (hi : Γ[i]? = some c0) (h : Z Y ts (Γ.set i .no) k) : Z Y ts Γ k := fun e F σ H D hM s c => h e F σ H D hM (s.hide hi) c

/-! targets -/
theorem a_name {x : α} {i : Nat} {c0 : Cell} {kn : List Cell → Prop} (hi : Γ[i]? = some c0) (h : kn (Γ.set i (.val d x))) : A Y (gName i) Γ d x kn := fun e F σ H v s r Q q =>
  q (σ.set i (some v)) _ h (s.set (c' := .val d x) (L' := []) hi s.base ⟨rfl, v, rfl, r⟩)
theorem a_pair {x : α × β} {n : Nat} {kn : List Cell → Prop} (hn : n = 2) (h : A Y g1 Γ d1 x.1 fun Γ1 => A Y g2 Γ1 d2 x.2 kn) : A Y (gTup Y.K n (gCons g1 (gCons g2 gNil))) Γ (dPair (d1 := d1) (d2 := d2)) x kn := fun e F σ H v s ⟨a, v1, v2, e1, ht, r1, r2⟩ Q q => by
  subst e1 hn
  refine ⟨a, [v1, v2], rfl, (ht.mono s.fh).sq, rfl, v1, [v2], rfl, h e F σ H v1 s r1 _ fun σ1 Γ1 h1 st1 => ⟨v2, [], rfl, h1 e F σ1 H v2 st1 r2 _ fun σ2 Γ2 h2 st2 => ⟨rfl, q σ2 Γ2 h2 st2⟩⟩⟩
theorem a_T4 {x : T4 α β γ δ} {n : Nat} {kn : List Cell → Prop} (hn : n = 4) (h : A Y g1 Γ d1 x.a fun Γ1 => A Y g2 Γ1 d2 x.b fun Γ2 => A Y g3 Γ2 d3 x.c fun Γ3 => A Y g4 Γ3 d4 x.d kn) : A Y (gTup Y.K n (gCons g1 (gCons g2 (gCons g3 (gCons g4 gNil))))) Γ (dT4 (d1 := d1) (d2 := d2) (d3 := d3) (d4 := d4)) x kn := fun e F σ H v s ⟨a, v1, v2, v3, v4, e1, ht, r1, r2, r3, r4⟩ Q q => by
  subst e1 hn
  refine ⟨a, [v1, v2, v3, v4], rfl, (ht.mono s.fh).sq, rfl, v1, [v2, v3, v4], rfl, h e F σ H v1 s r1 _ fun σ1 Γ1 h1 st1 => ⟨v2, [v3, v4], rfl, h1 e F σ1 H v2 st1 r2 _ fun σ2 Γ2 h2 st2 => ⟨v3, [v4], rfl, h2 e F σ2 H v3 st2 r3 _ fun σ3 Γ3 h3 st3 =>
    ⟨v4, [], rfl, h3 e F σ3 H v4 st3 r4 _ fun σ4 Γ4 h4 st4 => ⟨rfl, q σ4 Γ4 h4 st4⟩⟩⟩⟩⟩

/-! assignments -/
theorem z_set {i : Nat} {c0 : Cell} (hi : Γ[i]? = some c0) (h : W Y te Γ d fun x => k.nx (Γ.set i (.val d x))) : Z Y (tAsg te (gName i)) Γ k := fun e F σ H D hM s c => h e F σ H s _ fun v F' H' x kx g r =>
  c.nx F' _ H' _ kx (s.set (c' := .val d x) (L' := []) hi g ⟨rfl, v, rfl, r⟩)
theorem z_setG (h : W Y te Γ d fun x => A Y g Γ d x k.nx) : Z Y (tAsg te g) Γ k := fun e F σ H D hM s c => h e F σ H s _ fun v F' H' x kx gr r =>
  kx e F' σ H' v (s.grow gr) r _ fun σ2 Γ2 k2 s2 => c.nx F' σ2 H' Γ2 k2 s2
theorem z_setO {od : @OD α d} {i : Nat} {c0 : Cell} (hi : Γ[i]? = some c0) (h : O Y te Γ od fun x => k.nx (Γ.set i (.own d od none x))) : Z Y (tAsg te (gName i)) Γ k := fun e F σ H D hM s c => h e F σ H s _ fun v F' H' L' x kx g r =>
  c.nx F' _ H' _ kx (s.set (c' := .own d od none x) hi g ⟨v, rfl, fun _ z => (nomatch z), r⟩)
theorem z_drop {kt : α → Prop} (h : R Y te Γ d fun _ => k.nx Γ) : Z Y (tDrop te) Γ k := fun e F σ H D hM s c => h e F σ H s _ fun v F' H' x kx g r => c.nx F' σ H' Γ kx (s.grow g)
theorem z_if (h : T Y t Γ fun b => (b = true → Z Y t1 Γ k) ∧ (b = false → Z Y t2 Γ k)) : Z Y (tIfS t t1 t2) Γ k := fun e F σ H D hM s c => h e F σ H s _ fun b F' H' kb g => by
  cases b with
  | true => exact kb.1 rfl e F' σ H' D hM (s.grow g) c
  | false => exact kb.2 rfl e F' σ H' D hM (s.grow g) c
theorem z_ret (h : W Y te Γ d fun x => k.rt (.val d x) Γ) : Z Y (tRet te) Γ k := fun e F σ H D hM s c => h e F σ H s _ fun v F' H' x kx g r => by
  obtain ⟨_, L, kw, sl⟩ := s
  exact c.rt F' σ H' Γ v (.val d x) [] L kx (kw.trans0 g) ⟨rfl, v, rfl, r⟩ (sl.mono g.ff)
theorem z_retO {od : @OD α d} (h : O Y te Γ od fun x => k.rt (.own d od none x) Γ) : Z Y (tRet te) Γ k := fun e F σ H D hM s c => h e F σ H s _ fun v F' H' L' x kx g r => by
  obtain ⟨_, L, kw, sl⟩ := s
  exact c.rt F' σ H' Γ v (.own d od none x) L' L kx (kw.trans g) ⟨v, rfl, fun _ z => (nomatch z), r⟩ (sl.mono g.ff)
theorem z_retV {od : @OD α d} {i : Nat} {x : α} (hi : Γ[i]? = some (.own d od none x)) (h : k.rt (.own d od none x) (Γ.set i .no)) : Z Y (tRet (tVar i)) Γ k := fun e F σ H D hM s c => by
  obtain ⟨hx, L, k0, sl⟩ := s
  obtain ⟨o, L1, Li, L2, e1, e2, ⟨v, rfl, _, r⟩, f⟩ := sl.get hi
  subst e2
  refine ⟨v, e1, ?_⟩
  have sl2 := f F (some v) .no [] (Same.refl F) rfl
  rw [List.append_nil] at sl2
  exact c.rt F _ H _ v (.own d od none x) Li (L1 ++ L2) h k0.front ⟨v, rfl, fun _ z => (nomatch z), r⟩ sl2
/-! stores to what is owned -/
theorem z_append {pin : Option V} {i : Nat} {xs : List α} (hi : Γ[i]? = some (.own (dList (d := d)) (oList (d := d)) pin xs)) (h : W Y te Γ d fun y => xs.length < PySem.sizeLine ∧ k.nx (Γ.set i (.own (dList (d := d)) (oList (d := d)) pin (xs ++ [y])))) :
    Z Y (tDrop (tBM Y.K "list" rAppend (tVar i) (tCons te tNil))) Γ k := fun e F σ H D hM s c => by
  obtain ⟨v0, _, _, e1, ⟨a0, vs0, rfl, rfl, _⟩, kw0, _⟩ := s.mut hi
  have ha0 : H a0 = some (.lst vs0) := (kw0.ow (a0, .lst vs0) (by simp)).2.1
  refine ⟨.ref a0, e1, .inl ⟨rfl, vs0, .inl (.inl ha0)⟩, h e F σ H s _ fun w F' H' y ⟨hl, ky⟩ g rw' => ?_⟩
  obtain ⟨v, Li, rest, e2, ⟨a, vs, rfl, rfl, r⟩, kw, f⟩ := (s.grow g).mut hi
  rw [e1] at e2
  cases (Option.some.inj e2)
  have ha : H' a0 = some (.lst vs) := (kw.ow (a0, .lst vs) (by simp)).2.1
  refine ⟨a0, vs, w, rfl, rfl, ha, by rw [r.len]; exact hl, ?_⟩
  exact c.nx F' σ _ _ ky (f F' _ [(a0, .lst (vs ++ [w]))] (xs ++ [y]) (Same.refl F') (kw.put (fun _ z => by cases z)) ⟨a0, _, rfl, rfl, r.append (Reps.one rw')⟩)
/-! loops -/
theorem Wk.out {e : En} {F1 F : Hp} {L1 L : LO} {H1 H : Hp} (a : Wk e F1 L1 H1) (b : Wk ⟨F1, e.H0, e.M⟩ F L H) : Wk e F L H :=
  ⟨a.ff.trans b.ff, b.hh, b.th, b.fh, fun x h h' => b.nw x h (a.nw x h h'), b.tp, b.ow, b.nd⟩
theorem Wk.into {e : En} {F : Hp} {L : LO} {H : Hp} (a : Wk e F L H) : Wk ⟨F, e.H0, e.M⟩ F L H :=
  ⟨Same.refl _, a.hh, a.th, a.fh, fun _ _ h => h, a.tp, a.ow, a.nd⟩
theorem XOk.into {e : En} {F1 : Hp} {L1 : LO} {H1 : Hp} (h : XOk Y e) (a : Wk e F1 L1 H1) : XOk Y ⟨F1, e.H0, e.M⟩ := fun x d F σ H Γ k ⟨L, kw, sl⟩ hd => h x d F σ H Γ k ⟨L, a.out kw, sl⟩ hd
theorem State.into {e : En} {F : Hp} {σ : St} {H : Hp} (s : State Y e F σ H Γ) : State Y ⟨F, e.H0, e.M⟩ F σ H Γ := let ⟨hx, L, k, sl⟩ := s; ⟨hx.into k, L, k.into, sl⟩
theorem State.out {e : En} {F1 F : Hp} {L1 : LO} {H1 : Hp} {σ : St} {H : Hp} (hx : XOk Y e) (a : Wk e F1 L1 H1) (s : State Y ⟨F1, e.H0, e.M⟩ F σ H Γ) : State Y e F σ H Γ := let ⟨_, L, k, sl⟩ := s; ⟨hx, L, a.out k, sl⟩
theorem State.ff {e : En} {F : Hp} {σ : St} {H : Hp} (s : State Y e F σ H Γ) : Same e.F0 F := let ⟨_, _, k, _⟩ := s; k.ff
theorem Cont.into {e : En} {F1 : Hp} {L1 : LO} {H1 : Hp} {D : Ends} (hx : XOk Y e) (a : Wk e F1 L1 H1) (c : Cont Y e k D) : Cont Y ⟨F1, e.H0, e.M⟩ k D :=
  ⟨fun F σ H Γ q s => c.nx F σ H Γ q (s.out hx a), fun F σ H Γ v x L L' q kw => c.rt F σ H Γ v x L L' q (a.out kw), fun F σ H Γ q s => c.bk F σ H Γ q (s.out hx a), fun F σ H Γ q s => c.ct F σ H Γ q (s.out hx a)⟩
/-- what a loop asks of its body -/
def Body (Y : YC) (g : TG) (ts : TS) {α : Type} (d : Dat α) (k : Ks) (get : Nat → Option α) (n : Nat) (Γ : List Cell) : Prop :=
  ∃ I : Nat → List Cell → Prop, I 0 Γ ∧ (∀ i x Γ', get i = some x → I i Γ' → A Y g Γ' d x fun Γ2 => Z Y ts Γ2 { nx := I (i + 1), ct := I (i + 1), bk := k.nx, rt := k.rt }) ∧ ∀ Γ', I n Γ' → k.nx Γ'
theorem z_for {tl : TE} (h : W Y tl Γ (dList (d := d)) fun xs => Body Y g ts d k (fun i => xs[i]?) xs.length Γ) : Z Y (tFor (iList Y.K tl) g ts) Γ k := fun e F σ H D hM s c => h e F σ H s _ fun v F1 H1 xs ⟨I, h0, hs, hd⟩ g1 ⟨a, vs, e1, hq, r⟩ => by
  subst e1
  have s1 := s.grow g1
  obtain ⟨hx1, L1, kw1, _⟩ := id s1
  have c1 := c.into hx1 kw1
  refine ⟨a, rfl, ⟨vs, g1.fh.seq hq⟩, for_list (K := Y.K) (a := a) (xs := vs) (fun i σ H => ∃ F' Γ', State Y ⟨F1, e.H0, e.M⟩ F' σ H Γ' ∧ I i Γ') ⟨F1, Γ, s1.into, h0⟩ (fun i σ H _ ⟨F', Γ', st, _⟩ => (st.ff.trans st.fh).seq hq) (fun i w σ H hw ⟨F', Γ', st, hi⟩ => ?_) fun σ H ⟨F', Γ', st, hi⟩ => ?_⟩
  · obtain ⟨x, hx, rx⟩ := r.getV hw
    refine hs i x Γ' hx hi _ F' σ H w st (d.mono st.ff rx) _ fun σ2 Γ2 h2 st2 => ?_
    exact h2 ⟨F1, e.H0, e.M⟩ F' σ2 H _ hM st2 ⟨fun F3 σ3 H3 Γ3 k3 st3 => ⟨F3, Γ3, st3, k3⟩, c1.rt, c1.nx, fun F3 σ3 H3 Γ3 k3 st3 => ⟨F3, Γ3, st3, k3⟩⟩
  · rw [r.len] at hi
    exact c1.nx F' σ H Γ' (hd Γ' hi) st
theorem z_forT {tl : TE} (h : W Y tl Γ (dTup (d := d)) fun xs => Body Y g ts d k (fun i => xs.l[i]?) xs.l.length Γ) : Z Y (tFor (iTup Y.K tl) g ts) Γ k := fun e F σ H D hM s c => h e F σ H s _ fun v F1 H1 xs ⟨I, h0, hs, hd⟩ g1 ⟨a, vs, e1, hq, r⟩ => by
  subst e1
  have s1 := s.grow g1
  obtain ⟨hx1, L1, kw1, _⟩ := id s1
  have c1 := c.into hx1 kw1
  refine ⟨a, rfl, ⟨vs, (hq.mono g1.fh).sq⟩, for_tup (K := Y.K) (a := a) (xs := vs) (fun i σ H => ∃ F' Γ', State Y ⟨F1, e.H0, e.M⟩ F' σ H Γ' ∧ I i Γ') ⟨F1, Γ, s1.into, h0⟩ (fun i σ H _ ⟨F', Γ', st, _⟩ => (hq.mono (st.ff.trans st.fh)).sq) (fun i w σ H hw ⟨F', Γ', st, hi⟩ => ?_) fun σ H ⟨F', Γ', st, hi⟩ => ?_⟩
  · obtain ⟨x, hx, rx⟩ := r.getV hw
    refine hs i x Γ' hx hi _ F' σ H w st (d.mono st.ff rx) _ fun σ2 Γ2 h2 st2 => ?_
    exact h2 ⟨F1, e.H0, e.M⟩ F' σ2 H _ hM st2 ⟨fun F3 σ3 H3 Γ3 k3 st3 => ⟨F3, Γ3, st3, k3⟩, c1.rt, c1.nx, fun F3 σ3 H3 Γ3 k3 st3 => ⟨F3, Γ3, st3, k3⟩⟩
  · rw [r.len] at hi
    exact c1.nx F' σ H Γ' (hd Γ' hi) st
/-- lo, lo + 1, .. (n of them) -/
def rng (lo : Int) (n : Nat) (i : Nat) : Option Int := if i < n then some (lo + i) else none
theorem for_rng {lo : Int} {n : Nat} {e : En} {F : Hp} {σ : St} {H : Hp} {D : Ends} (hM : e.M = []) (s : State Y e F σ H Γ) (c : Cont Y e k D) (h : Body Y g ts dInt k (rng lo n) n Γ) : ∃ W : Nat → Nat → St → Hp → Prop, (∃ m, W 0 m σ H) ∧ ∀ i m σ H, W i m σ H →
      ((Itr lo n).stop i H ∧ D.nx σ H) ∨ ((Itr lo n).go i H ∧ ∃ N : St → Hp → Prop, (∀ σ' H', N σ' H' → ∃ m', m' < m ∧ W (i + 1) m' σ' H') ∧ ∀ x H', (Itr lo n).yld i H x H' → g x σ H' fun σ2 H2 => ts { D with nx := N, ct := N, bk := D.nx } σ2 H2) := by
  obtain ⟨I, h0, hs, hd⟩ := h
  refine for_range (lo := lo) (n := n) (fun i σ H => ∃ F' Γ', State Y e F' σ H Γ' ∧ I i Γ') ⟨F, Γ, s, h0⟩ (fun i σ H hw ⟨F', Γ', st, hi⟩ => ?_) fun σ H ⟨F', Γ', st, hi⟩ => c.nx F' σ H Γ' (hd Γ' hi) st
  refine hs i (lo + i) Γ' (by unfold rng; rw [if_pos hw]) hi _ F' σ H _ st rfl _ fun σ2 Γ2 h2 st2 => ?_
  exact h2 _ F' σ2 H _ hM st2 ⟨fun F3 σ3 H3 Γ3 k3 st3 => ⟨F3, Γ3, st3, k3⟩, c.rt, c.nx, fun F3 σ3 H3 Γ3 k3 st3 => ⟨F3, Γ3, st3, k3⟩⟩
theorem z_range (h : R Y ta Γ dInt fun n => -(2 ^ 62) ≤ n ∧ n < 2 ^ 62 ∧ Body Y g ts dInt k (rng 0 n.toNat) n.toNat Γ) : Z Y (tFor (iRng1 (tCons ta tNil)) g ts) Γ k := fun e F σ H D hM s c => h e F σ H s _ fun v F1 H1 n ⟨l1, l2, hb⟩ g1 r1 => by
  cases (show v = .int n from r1)
  exact ⟨n, rfl, l1, l2, for_rng hM (s.grow g1) c hb⟩
/-! truth of a list -/
/-! ### calls -/
/-- a def over data that it leaves as they are -/
def Fn (C : GCtx) (Γ : List Cell) (post : Cell → Prop) (vs : List V) (H : Hp) (Q : VK) : Prop :=
  ∃ F, Gr F H F H ∧ Slots C F (vs.map some) Γ [] ∧ ∀ v F' H' c L, post c → Wk ⟨F, H, []⟩ F' L H' → CellOk C F' (some v) c L → Q v H'
theorem Fn.len {post : Cell → Prop} {vs : List V} {H : Hp} {Q : VK} (h : Fn C Γ post vs H Q) : vs.length = Γ.length := by
  obtain ⟨F, _, s, _⟩ := h
  simpa using s.len
theorem Fn.mono {post post' : Cell → Prop} {vs : List V} {H : Hp} {Q : VK} (h : Fn C Γ post vs H Q) (m : ∀ c, post' c → post c) : Fn C Γ post' vs H Q := by
  obtain ⟨F, g, s, q⟩ := h
  exact ⟨F, g, s, fun v F' H' c L p => q v F' H' c L (m c p)⟩
/-- sp serves the cells, and its answers are as post says -/
def SpW (C : GCtx) (sp : Sp) (cs : List Cell) (post : Cell → Prop) : Prop := ∀ vs H Q E, Fn C cs post vs H Q → sp vs H Q E
/-- what is new in H' joins F -/
def fresh (F H F' : Hp) : Hp := fun a => if (H a).isSome = true then F a else F' a
theorem fresh_gr {F F1 H F' H' : Hp} {L : LO} (b : Gr F H F H) (g : Wk ⟨F1, H, []⟩ F' L H') : Wk ⟨F, H, []⟩ (fresh F H F') L H' where
  ff := fun a o h => by
    have h2 : (H a).isSome = true := by rw [b.fh a o h]; rfl
    unfold fresh; rw [if_pos h2]; exact h
  hh := g.hh
  th := g.th
  fh := fun a o h => by
    unfold fresh at h
    split at h
    · exact g.hh a o (fun z => nomatch z) (b.fh a o h)
    · exact g.fh a o h
  nw := fun a h h' => by
    unfold fresh
    have h2 : (H a).isSome = true := by cases q : H a with | none => exact absurd q h | some o => rfl
    rw [if_pos h2]; exact h'
  tp := fun a xs h => by
    unfold fresh
    split
    · next h2 =>
      cases q : H a with
      | none => rw [q] at h2; cases h2
      | some o =>
        have := g.hh a o (fun z => nomatch z) q
        rw [h] at this
        cases (Option.some.inj this)
        exact b.tp a xs q
    · exact g.tp a xs h
  ow := fun p hp => by
    obtain ⟨h1, h2, h3⟩ := g.ow p hp
    have h4 : H p.1 = none := h3.resolve_right (fun z => nomatch z)
    refine ⟨?_, h2, .inl h4⟩
    unfold fresh
    rw [if_neg (by rw [h4]; exact fun z => nomatch z)]
    exact h1
  nd := g.nd
theorem Gr.all {F H : Hp} (b : Gr F H F H) : Gr H H H H := ⟨Same.refl _, fun _ _ _ h => h, fun _ h => h, Same.refl _, fun _ _ h => h, fun _ _ h => h, fun _ h => (nomatch h), List.nodup_nil⟩
/-- owned data that lean on nothing but what stands still -/
class OIm (α : Type) [d : Dat α] (od : OD α) : Prop where
  oimm : ∀ {C : GCtx} {F H : Hp} {v : V} {x : α} {L : LO}, (∀ a xs, H a = some (.tup xs) → F a = some (.tup xs)) → od.orep C H v x L → od.orep C F v x L
instance mList {α : Type} [d : Dat α] [i : Imm α] : OIm (List α) oList := ⟨fun t ⟨a, vs, e, h, r⟩ => ⟨a, vs, e, h, r.imm t⟩⟩
theorem slots_pad {C : GCtx} {F : Hp} : ∀ n, Slots C F (List.replicate n none) (List.replicate n .no) [] := by
  intro n
  induction n with
  | zero => exact .nil
  | succ n ih => exact .cons (L := []) rfl ih
theorem slots_app {C : GCtx} {F : Hp} {σ1 σ2 : St} {Γ1 Γ2 : List Cell} {L1 L2 : LO} (a : Slots C F σ1 Γ1 L1) (b : Slots C F σ2 Γ2 L2) : Slots C F (σ1 ++ σ2) (Γ1 ++ Γ2) (L1 ++ L2) := by
  induction a with
  | nil => exact b
  | cons h r ih => rw [List.append_assoc]; exact .cons h ih
/-- a def over data that it leaves as they are, which may let exceptions out -/
def FnX (C : GCtx) (Γ : List Cell) (post : Cell → Prop) (xp : Exn → Prop) (vs : List V) (H : Hp) (Q : VK) (E : XK) : Prop :=
  ∃ F, Gr F H F H ∧ Slots C F (vs.map some) Γ [] ∧ (∀ v F' H' c L, post c → Wk ⟨F, H, []⟩ F' L H' → CellOk C F' (some v) c L → Q v H') ∧
    ∀ x d F' H', xp x → Wk ⟨F, H, []⟩ F' [] H' → x.at F' d → E (.ref x.cls) d H'
theorem FnX.fn {post : Cell → Prop} {xp : Exn → Prop} {vs : List V} {H : Hp} {Q : VK} {E : XK} (h : FnX C Γ post xp vs H Q E) : Fn C Γ post vs H Q := let ⟨F, g, s, q, _⟩ := h; ⟨F, g, s, q⟩
theorem FnX.len {post : Cell → Prop} {xp : Exn → Prop} {vs : List V} {H : Hp} {Q : VK} {E : XK} (h : FnX C Γ post xp vs H Q E) : vs.length = Γ.length := h.fn.len
theorem FnX.mono {post post' : Cell → Prop} {xp xp' : Exn → Prop} {vs : List V} {H : Hp} {Q : VK} {E : XK} (h : FnX C Γ post xp vs H Q E) (m : ∀ c, post' c → post c) (mx : ∀ x, xp' x → xp x) : FnX C Γ post' xp' vs H Q E := by
  obtain ⟨F, g, s, q, qx⟩ := h
  exact ⟨F, g, s, fun v F' H' c L p => q v F' H' c L (m c p), fun x d F' H' p => qx x d F' H' (mx x p)⟩
theorem Fn.x {post : Cell → Prop} {vs : List V} {H : Hp} {Q : VK} {E : XK} (h : Fn C Γ post vs H Q) : FnX C Γ post (fun _ => False) vs H Q E := let ⟨F, g, s, q⟩ := h; ⟨F, g, s, q, fun _ _ _ _ z => z.elim⟩
def SpX (C : GCtx) (sp : Sp) (cs : List Cell) (post : Cell → Prop) (xp : Exn → Prop) : Prop := ∀ vs H Q E, FnX C cs post xp vs H Q E → sp vs H Q E
theorem SpX.w {sp : Sp} {cs : List Cell} {post : Cell → Prop} (h : SpX C sp cs post fun _ => False) : SpW C sp cs post := fun vs H Q E f => h vs H Q E f.x
theorem FnX.body {N : List Str} {post : Cell → Prop} {xp : Exn → Prop} {vs : List V} {H : Hp} {Q : VK} {E : XK} {t : TS} (h : FnX C Γ post xp vs H Q E)
    (hz : Z ⟨C, fun _ => E, fun x _ => xp x⟩ t (Γ ++ List.replicate (N.length - Γ.length) .no) { nx := fun _ => post (.val dUnit ()), rt := fun c _ => post c, bk := fun _ => False, ct := fun _ => False }) : t { nx := fun _ H' => Q .non H', rt := Q } (L2.start N vs) H := by
  have hl := h.len
  obtain ⟨F, g, s, q, qx⟩ := h
  have st : State ⟨C, fun _ => E, fun x _ => xp x⟩ ⟨F, H, []⟩ F (L2.start N vs) H (Γ ++ List.replicate (N.length - Γ.length) .no) := by
    refine ⟨fun x d F' σ' H' Γ' k ⟨L, kw, _⟩ hd => qx x d F' H' k (kw.sub (fun _ z => nomatch z) List.nodup_nil) hd, [], g, ?_⟩
    unfold L2.start
    rw [← hl]
    exact slots_app s (slots_pad _)
  refine hz ⟨F, H, []⟩ F (L2.start N vs) H _ rfl st ⟨fun F' σ' H' Γ' p s' => ?_, fun F' σ' H' Γ' v c L L' p kw rc sl => ?_, fun _ _ _ _ z => z.elim, fun _ _ _ _ z => z.elim⟩
  · obtain ⟨_, L, kw, _⟩ := s'
    refine q .non F' H' (.val dUnit ()) [] p (kw.sub (fun _ z => nomatch z) List.nodup_nil) ⟨rfl, .non, rfl, rfl⟩
  · have nd : (L.map Prod.fst).Nodup := by
      have := kw.nd
      rw [List.map_append] at this
      exact (List.nodup_append.mp this).1
    exact q v F' H' c L p (kw.sub (fun p hp => List.mem_append_left _ hp) nd) rc
/-- THE BODY of such a def -/
theorem Fn.body {N : List Str} {post : Cell → Prop} {vs : List V} {H : Hp} {Q : VK} {t : TS} (h : Fn C Γ post vs H Q)
    (hz : Z (calm C) t (Γ ++ List.replicate (N.length - Γ.length) .no) { nx := fun _ => post (.val dUnit ()), rt := fun c _ => post c, bk := fun _ => False, ct := fun _ => False }) : t { nx := fun _ H' => Q .non H', rt := Q } (L2.start N vs) H := FnX.body (E := fun _ _ _ => False) h.x hz
/-! calls that may raise -/
theorem w_callX {sp : Sp} {E : St → XK} {tl : TA} {kx : α → Prop} (hE : E = Y.E) (h : WA Y tl Γ fun cs => SpX Y.g sp cs (fun c => ∃ r, c = .val d r ∧ kx r) fun x => Y.kx x Γ) : W Y (tCallS sp E tl) Γ d kx := fun e F σ H s Q q => h e F σ H s _ fun vs F1 H1 cs hc g1 sl => by
  subst hE
  refine hc vs H1 Q _ ⟨F1, g1.base, sl, fun v F' H' c L ⟨r, ec, kr⟩ g2 rc => ?_, fun x d F' H' kx' g2 hd => ?_⟩
  · subst ec
    obtain ⟨e1, v', e2, rv⟩ := rc
    subst e1
    cases (Option.some.inj e2)
    exact q v F' H' r kr (g1.trans0 g2) rv
  · exact s.1 x d F' σ H' Γ kx' ((s.grow g1).grow g2).2 hd
theorem o_callX {sp : Sp} {E : St → XK} {tl : TA} {od : @OD α d} {kx : α → Prop} (hE : E = Y.E) (h : WA Y tl Γ fun cs => SpX Y.g sp cs (fun c => ∃ r, c = .own d od none r ∧ kx r) fun x => Y.kx x Γ) : O Y (tCallS sp E tl) Γ od kx := fun e F σ H s Q q => h e F σ H s _ fun vs F1 H1 cs hc g1 sl => by
  subst hE
  refine hc vs H1 Q _ ⟨F1, g1.base, sl, fun v F' H' c L ⟨r, ec, kr⟩ g2 rc => ?_, fun x d F' H' kx' g2 hd => ?_⟩
  · subst ec
    obtain ⟨v', e2, _, rv⟩ := rc
    cases (Option.some.inj e2)
    exact q v F' H' L r kr (by simpa using g1.trans g2) rv
  · exact s.1 x d F' σ H' Γ kx' ((s.grow g1).grow g2).2 hd
end
end G

/-! G4: comprehensions, sorted, isinstance, equality, sets and dicts. -/
namespace G
open PySem L2

/-! ### targets that touch but their own slots -/
def Tg (g : TG) (js : List Nat) : Prop := ∀ v σ H (Q : St → Hp → Prop), g v σ H Q → g v σ H fun σ' H' => wipe σ' js = wipe σ js ∧ Q σ' H'
def Tgs (g : TGs) (js : List Nat) : Prop := ∀ vs σ H (Q : St → Hp → Prop), g vs σ H Q → g vs σ H fun σ' H' => wipe σ' js = wipe σ js ∧ Q σ' H'
theorem set_comm {α : Type _} (l : List α) {i j : Nat} (a b : α) (h : i ≠ j) : (l.set i a).set j b = (l.set j b).set i a := by
  apply List.ext_getElem?
  intro m
  simp only [List.getElem?_set, List.length_set]
  by_cases h1 : j = m <;> by_cases h2 : i = m <;> simp_all
theorem wipe_at {σ : St} {i : Nat} {o : Option V} : ∀ {js : List Nat}, i ∈ js → wipe (σ.set i o) js = wipe σ js
  | [], h => nomatch h
  | j :: js, h => by
    unfold wipe
    by_cases hi : i ∈ js
    · rw [wipe_at hi]
    · have e : i = j := by
        rcases List.mem_cons.mp h with h | h
        · exact h
        · exact absurd h hi
      subst e
      have q : ∀ (js : List Nat), i ∉ js → wipe (σ.set i o) js = (wipe σ js).set i o := by
        intro js
        induction js with
        | nil => intro _; rfl
        | cons m js ih =>
          intro h
          unfold wipe
          rw [ih (fun z => h (List.mem_cons_of_mem _ z)), set_comm _ _ _ (fun z => h (by rw [z]; exact List.mem_cons_self))]
      rw [q js hi]
      exact List.set_set _
theorem tg_name {i : Nat} {js : List Nat} (h : i ∈ js) : Tg (gName i) js := fun v σ H Q q => ⟨wipe_at h, q⟩
theorem tgs_nil {js : List Nat} : Tgs gNil js := fun vs σ H Q ⟨e, q⟩ => ⟨e, rfl, q⟩
theorem tgs_cons {g : TG} {gs : TGs} {js : List Nat} (h : Tg g js) (hs : Tgs gs js) (m : ∀ v σ H (Q Q' : St → Hp → Prop), (∀ σ H, Q σ H → Q' σ H) → g v σ H Q → g v σ H Q') (ms : ∀ v σ H (Q Q' : St → Hp → Prop), (∀ σ H, Q σ H → Q' σ H) → gs v σ H Q → gs v σ H Q') : Tgs (gCons g gs) js := fun vs σ H Q ⟨v, r, e, q⟩ =>
  ⟨v, r, e, m _ _ _ _ _ (fun σ1 H1 ⟨e1, q1⟩ => ms _ _ _ _ _ (fun σ2 H2 ⟨e2, q2⟩ => ⟨e2.trans e1, q2⟩) (hs _ _ _ _ q1)) (h _ _ _ _ q)⟩
def MoG (g : TG) : Prop := ∀ v σ H (Q Q' : St → Hp → Prop), (∀ σ H, Q σ H → Q' σ H) → g v σ H Q → g v σ H Q'
def MoGs (g : TGs) : Prop := ∀ v σ H (Q Q' : St → Hp → Prop), (∀ σ H, Q σ H → Q' σ H) → g v σ H Q → g v σ H Q'
theorem mo_name {i : Nat} : MoG (gName i) := fun _ _ _ _ _ m q => m _ _ q
theorem mos_nil : MoGs gNil := fun _ _ _ _ _ m ⟨e, q⟩ => ⟨e, m _ _ q⟩
theorem mos_cons {g : TG} {gs : TGs} (h : MoG g) (hs : MoGs gs) : MoGs (gCons g gs) := fun _ _ _ _ _ m ⟨v, r, e, q⟩ => ⟨v, r, e, h _ _ _ _ _ (fun _ _ q => hs _ _ _ _ _ m q) q⟩
theorem mo_tup {K : PySem.W.Frag} {n : Nat} {gs : TGs} (h : MoGs gs) : MoG (gTup K n gs) := fun _ _ _ _ _ m ⟨a, xs, e, s, l, q⟩ => ⟨a, xs, e, s, l, h _ _ _ _ _ m q⟩
theorem tgs_cons' {g : TG} {gs : TGs} {js : List Nat} (h : Tg g js ∧ MoG g) (hs : Tgs gs js ∧ MoGs gs) : Tgs (gCons g gs) js ∧ MoGs (gCons g gs) := ⟨tgs_cons h.1 hs.1 h.2 hs.2, mos_cons h.2 hs.2⟩
theorem tgs_nil' {js : List Nat} : Tgs gNil js ∧ MoGs gNil := ⟨tgs_nil, mos_nil⟩
theorem tg_name' {i : Nat} {js : List Nat} (h : i ∈ js) : Tg (gName i) js ∧ MoG (gName i) := ⟨tg_name h, mo_name⟩
theorem tg_tup' {K : PySem.W.Frag} {n : Nat} {gs : TGs} {js : List Nat} (h : Tgs gs js ∧ MoGs gs) : Tg (gTup K n gs) js ∧ MoG (gTup K n gs) := ⟨fun _ _ _ _ ⟨a, xs, e, s, l, q⟩ => ⟨a, xs, e, s, l, h.1 _ _ _ _ q⟩, mo_tup h.2⟩

def wipeC (Γ : List Cell) : List Nat → List Cell
  | [] => Γ
  | v :: vs => (wipeC Γ vs).set v .no
section
variable {C : GCtx} {Y : YC} {e : En} {F F' : Hp} {σ : St} {H H' : Hp} {Γ : List Cell}
theorem State.len (s : State Y e F σ H Γ) : σ.length = Γ.length := let ⟨_, _, _, sl⟩ := s; sl.len
theorem State.wipe (s : State Y e F σ H Γ) : ∀ vs : List Nat, State Y e F (wipe σ vs) H (wipeC Γ vs)
  | [] => s
  | v :: vs => by
    have ih := State.wipe s vs
    unfold L2.wipe wipeC
    cases q : (wipeC Γ vs)[v]? with
    | some c => exact ih.forget q
    | none =>
      have h1 : (wipeC Γ vs).length ≤ v := List.getElem?_eq_none_iff.mp q
      have h2 : (L2.wipe σ vs).length ≤ v := by rw [ih.len]; exact h1
      rw [List.set_eq_of_length_le h1, List.set_eq_of_length_le h2]
      exact ih
theorem State.growL {L' : LO} (s : State Y e F σ H Γ) (g : Wk ⟨F, H, []⟩ F' L' H') : State Y e F' σ H' Γ := by
  obtain ⟨hx, L, k, sl⟩ := s
  have k2 := k.trans g
  have k3 : Wk e F' ([] ++ L' ++ L) H' := by simpa using k2
  exact ⟨hx, L, by simpa using k3.drop, sl.mono g.ff⟩
end

/-! ### comprehensions -/
section
variable {C : GCtx} {Y : YC} {Γ : List Cell} {te ta tb tc : TE} {t u tt : TT} {α β γ δ : Type} {d1 : Dat α} {d : Dat α} {d2 : Dat β} {k : Ks} {t1 t2 ts : TS} {g : TG}

def CompB (Y : YC) (g : TG) (tt : TT) (te : TE) {α β : Type} (d : Dat α) (d2 : Dat β) (kx : List β → Prop) (get : Nat → Option α) (n : Nat) (Γ : List Cell) : Prop :=
  ∃ I : Nat → List β → Prop, I 0 [] ∧ (∀ i x ys, get i = some x → I i ys → A Y g Γ d x fun Γ2 => T Y tt Γ2 fun b => (b = true → W Y te Γ2 d2 fun y => ys.length < PySem.sizeLine ∧ I (i + 1) (ys ++ [y])) ∧ (b = false → I (i + 1) ys)) ∧ ∀ ys, I n ys → kx ys
/-- one turn -/
theorem comp_turn {e : En} {F1 : Hp} {σ : St} {H1 : Hp} {vs : List Nat} {D : Addr} {x : α} {v : V} {I I' : List β → Prop} (s1 : State Y e F1 σ H1 Γ) (hT : Tg g vs)
    (hs : ∀ ys, I ys → A Y g (wipeC Γ vs) d x fun Γ2 => T Y tt Γ2 fun b => (b = true → W Y te Γ2 d2 fun y => ys.length < PySem.sizeLine ∧ I' (ys ++ [y])) ∧ (b = false → I' ys)) (rx : ∀ F', Same F1 F' → d.rep Y.g F' v x) {H : Hp}
    (h : ∃ F' acc ys, Wk ⟨F1, H1, []⟩ F' [(D, .lst acc)] H ∧ Reps d2 Y.g F' acc ys ∧ I ys) :
    g v (wipe σ vs) H fun σ2 H2 => wipe σ2 vs = wipe σ vs ∧ tt σ2 H2 fun b H3 =>
      if b = true then te σ2 H3 fun y H4 => ∃ acc, H4 D = some (.lst acc) ∧ acc.length < PySem.sizeLine ∧ (∃ F' acc' ys, Wk ⟨F1, H1, []⟩ F' [(D, .lst acc')] (upd H4 D (.lst (acc ++ [y]))) ∧ Reps d2 Y.g F' acc' ys ∧ I' ys) else (∃ F' acc ys, Wk ⟨F1, H1, []⟩ F' [(D, .lst acc)] H3 ∧ Reps d2 Y.g F' acc ys ∧ I' ys) := by
  obtain ⟨F', acc, ys, kw, r, hi⟩ := h
  have st := (s1.growL kw).wipe vs
  have ww : ∀ σ0 : St, wipe (wipe σ0 vs) vs = wipe σ0 vs := by
    intro σ0
    have : ∀ (l : List Nat) (σ1 : St), (∀ j ∈ l, (σ1[j]? = none ∨ σ1[j]? = some none)) → wipe σ1 l = σ1 := by
      intro l
      induction l with
      | nil => intro _ _; rfl
      | cons j l ih =>
        intro σ1 hj
        unfold wipe
        rw [ih σ1 fun m hm => hj m (List.mem_cons_of_mem _ hm)]
        apply List.ext_getElem?
        intro m
        rw [List.getElem?_set]
        by_cases hm : j = m
        · subst hm
          rcases hj j List.mem_cons_self with z | z
          · rw [z, if_pos rfl, if_neg (Nat.not_lt.mpr (List.getElem?_eq_none_iff.mp z))]
          · rw [z, if_pos rfl, if_pos (List.getElem?_eq_some_iff.mp z).1]
        · rw [if_neg hm]
    refine this vs _ fun j hj => ?_
    cases q : (wipe σ0 vs)[j]? with
    | none => exact .inl rfl
    | some o =>
      cases o with
      | none => exact .inr rfl
      | some y => exact absurd hj (wipe_some q).2
  have key := hs ys hi e F' _ H v st (rx F' kw.ff) (fun σ2 H2 => tt σ2 H2 fun b H3 =>
      if b = true then te σ2 H3 fun y H4 => ∃ acc, H4 D = some (.lst acc) ∧ acc.length < PySem.sizeLine ∧ (∃ F' acc' ys, Wk ⟨F1, H1, []⟩ F' [(D, .lst acc')] (upd H4 D (.lst (acc ++ [y]))) ∧ Reps d2 Y.g F' acc' ys ∧ I' ys) else (∃ F' acc ys, Wk ⟨F1, H1, []⟩ F' [(D, .lst acc)] H3 ∧ Reps d2 Y.g F' acc ys ∧ I' ys)) fun σ2 Γ2 h2 st2 => by
    refine h2 e F' σ2 H st2 _ fun b F3 H3 kb g3 => ?_
    have kw3 := kw.trans0 g3
    cases b with
    | false => exact ⟨F3, acc, ys, kw3, r.mono g3.ff, kb.2 rfl⟩
    | true =>
      refine kb.1 rfl e F3 σ2 H3 (st2.grow g3) _ fun y F4 H4 yv ⟨hl, ky⟩ g4 ry => ?_
      have kw4 := kw3.trans0 g4
      have hD : H4 D = some (.lst acc) := (kw4.ow (D, .lst acc) (by simp)).2.1
      exact ⟨acc, hD, by rw [r.len]; exact hl, F4, acc ++ [y], ys ++ [yv], kw4.put (fun _ z => by cases z), (r.mono (g3.ff.trans g4.ff)).append (Reps.one ry), ky⟩
  have key2 := hT v _ H _ key
  rw [ww] at key2
  exact key2
theorem o_lcR {vs : List Nat} {kx : List β → Prop} (hT : Tg g vs ∧ MoG g) (h : R Y ta Γ dInt fun n => -(2 ^ 62) ≤ n ∧ n < 2 ^ 62 ∧ CompB Y g tt te dInt d2 kx (rng 0 n.toNat) n.toNat (wipeC Γ vs)) : O Y (tLc (iRng1 (tCons ta tNil)) g tt te vs) Γ (oList (d := d2)) kx := fun e F σ H s Q q => h e F σ H s _ fun v F1 H1 n ⟨l1, l2, I, h0, hs, hd⟩ g1 r1 => by
  cases (show v = .int n from r1)
  refine ⟨n, rfl, l1, l2, fun D hD => ?_⟩
  have kw0 : Wk ⟨F1, H1, []⟩ F1 [(D, .lst [])] (upd H1 D (.lst [])) := g1.base.own hD (fun _ z => by cases z)
  refine lc_range (lo := 0) (n := n.toNat) (fun i H => ∃ F' acc ys, Wk ⟨F1, H1, []⟩ F' [(D, .lst acc)] H ∧ Reps d2 Y.g F' acc ys ∧ I i ys) ⟨F1, [], [], kw0, trivial, h0⟩ (fun i H hw p => ?_) fun H ⟨F', acc, ys, kw, ra, hi⟩ => ?_
  · exact comp_turn (d := dInt) (s.grow g1) hT.1 (hs i (0 + i) · (by unfold rng; rw [if_pos hw])) (fun F' sm => rfl) p
  · exact q _ F' H _ ys (hd ys hi) (by simpa using g1.trans kw) ⟨D, acc, rfl, rfl, ra⟩
/-- no test -/
theorem t_yes {kb : Bool → Prop} (h : kb true) : T Y tYes Γ kb := fun e F σ H s Q q => q true F H h s.base
def rngL (lo : Int) (n : Nat) : List Int := (List.range n).map fun i : Nat => lo + (i : Int)
theorem rng_get (lo : Int) (n i : Nat) : rng lo n i = (rngL lo n)[i]? := by
  unfold rng rngL
  rw [List.getElem?_map]
  by_cases h : i < n
  · rw [if_pos h, List.getElem?_range h]; rfl
  · rw [if_neg h, List.getElem?_eq_none (by simpa using h)]; rfl
theorem rngL_len (lo : Int) (n : Nat) : (rngL lo n).length = n := by simp [rngL]

/-! ### sorted -/
def isort (xs : List Int) : List Int := xs.mergeSort (fun a b => decide (a ≤ b))
theorem isort_perm (xs : List Int) : (isort xs).Perm xs := List.mergeSort_perm _ _
theorem isort_pw (xs : List Int) : (isort xs).Pairwise (· ≤ ·) := by
  have h := List.pairwise_mergeSort (le := fun a b : Int => decide (a ≤ b)) (by intro a b c; simp; omega) (by intro a b; simp; omega) xs
  exact h.imp (by simp)
theorem sorted_eq {xs ys : List Int} (p : xs.Perm ys) (h1 : xs.Pairwise (· ≤ ·)) (h2 : ys.Pairwise (· ≤ ·)) : xs = ys :=
  List.Perm.eq_of_pairwise (fun a b _ _ h h' => Int.le_antisymm h h') h1 h2 p
theorem isort_eq {xs ys : List Int} (p : ys.Perm xs) (h : ys.Pairwise (· ≤ ·)) : ys = isort xs := sorted_eq (p.trans (isort_perm xs).symm) h (isort_pw xs)
/-! ### isinstance -/
class Ty (α : Type) [d : Dat α] where
  tn : String
  ty : ∀ {C : GCtx} {H : Hp} {v : V} {x : α}, d.rep C H v x → TyX C.K H v (.type tn)
instance tyInt : Ty Int := ⟨"int", fun {C H v x} h => by cases (show v = .int x from h); exact .base (.int x)⟩
instance tyBool : Ty Bool := ⟨"bool", fun {C H v x} h => by cases (show v = .bl x from h); exact .base (.bl x)⟩
instance tyStr : Ty Str := ⟨"str", fun {C H v x} h => by cases (show v = .str x from h); exact .base (.str x)⟩
theorem ty_sql {K : PySem.W.Frag} {H : Hp} {a : Addr} {xs : List V} (h : SqL K H a xs) : TyX K H (.ref a) (.type "list") := by
  rcases h with (h | ⟨o, h⟩) | ⟨o, its, n, h, hc, _⟩
  · exact .base (.lst h)
  · exact .base (.frz h)
  · exact .kList h hc
theorem ty_tpa {K : PySem.W.Frag} {H : Hp} {a : Addr} {xs : List V} (h : TpA K H a xs) : TyX K H (.ref a) (.type "tuple") := by
  rcases h with h | (h | ⟨o, h⟩) | ⟨o, its, n, h, hc, _⟩
  · exact .base (.tup h)
  · cases h
  · cases h
  · exact .kTuple h hc
instance tyList {α : Type} [d : Dat α] : Ty (List α) := ⟨"list", fun ⟨a, vs, e, h, r⟩ => by subst e; exact ty_sql (.inl h)⟩
instance tyTup {α : Type} [d : Dat α] : Ty (Tup α) := ⟨"tuple", fun ⟨a, vs, e, h, r⟩ => by subst e; exact ty_tpa h⟩
instance tyPair {α β : Type} [d1 : Dat α] [d2 : Dat β] : Ty (α × β) := ⟨"tuple", fun ⟨a, _, _, e, h, _⟩ => by subst e; exact ty_tpa h⟩
instance tyT3 {α β γ : Type} [d1 : Dat α] [d2 : Dat β] [d3 : Dat γ] : Ty (T3 α β γ) := ⟨"tuple", fun ⟨a, _, _, _, e, h, _⟩ => by subst e; exact ty_tpa h⟩
instance tyT4 {α β γ δ : Type} [d1 : Dat α] [d2 : Dat β] [d3 : Dat γ] [d4 : Dat δ] : Ty (T4 α β γ δ) := ⟨"tuple", fun ⟨a, _, _, _, _, e, h, _⟩ => by subst e; exact ty_tpa h⟩
theorem w_isi [ty : @Ty α d] {c : String} {b : Bool} {kx : Bool → Prop} (hk : PySem.W.kitOne Y.K (.type ty.tn) (.type c) = some b) (h : R Y ta Γ d fun _ => kx b) : W Y (tCB (rIsi Y.K) (tCons ta (tCons (tC (.ty c)) tNil))) Γ dBool kx := fun e F σ H s Q q => h e F σ H s _ fun v F' H' x kx g r =>
  ⟨v, .ty c, .type ty.tn, .type c, b, rfl, .ty c, ty.ty r, hk, q _ F' H' b kx g rfl⟩

/-! ### equality of data -/
class DE (α : Type) [d : Dat α] where
  toD : α → PyData
  dep : Nat
  dp : ∀ {C : GCtx} {H : Hp} {v : V} {x : α}, d.rep C H v x → Dp C.K H v (toD x)
  lay : ∀ x, (toD x).plain = true
  deep : ∀ x, (toD x).depth ≤ dep
  eqv : ∀ x y, PyData.eqv (toD x) (toD y) = true ↔ x = y
instance deInt : DE Int := ⟨.int, 1, fun {C H v x} h => by cases (show v = .int x from h); exact .int x, fun _ => by simp [PyData.plain], fun _ => by simp [PyData.depth], fun x y => by simp [PyData.eqv]⟩
instance deStr : DE Str := ⟨.str, 1, fun {C H v x} h => by cases (show v = .str x from h); exact .str x, fun _ => by simp [PyData.plain], fun _ => by simp [PyData.depth], fun x y => by simp [PyData.eqv]⟩
instance deBool : DE Bool := ⟨.bool, 1, fun {C H v x} h => by cases (show v = .bl x from h); exact .bl x, fun _ => by simp [PyData.plain], fun _ => by simp [PyData.depth], fun x y => by simp [PyData.eqv]⟩
theorem dpAll_of [de : @DE α d] {H : Hp} : ∀ {vs : List V} {xs : List α}, Reps d C H vs xs → DpAll C.K H vs (xs.map de.toD)
  | [], [], _ => .nil
  | _ :: _, _ :: _, h => .cons (de.dp h.1) (dpAll_of h.2)
  | [], _ :: _, h => h.elim
  | _ :: _, [], h => h.elim
theorem eqvAll_of [de : @DE α d] : ∀ xs ys : List α, PyData.eqvAll (xs.map de.toD) (ys.map de.toD) = true ↔ xs = ys
  | [], [] => by simp [PyData.eqvAll]
  | x :: xs, y :: ys => by simp [PyData.eqvAll, de.eqv, eqvAll_of xs ys]
  | [], _ :: _ => by simp [PyData.eqvAll]
  | _ :: _, [] => by simp [PyData.eqvAll]
theorem layAll_of [de : @DE α d] : ∀ xs : List α, PyData.plainAll (xs.map de.toD) = true
  | [] => by simp [PyData.plainAll]
  | x :: xs => by simp [PyData.plainAll, de.lay, layAll_of xs]
theorem depAll_of [de : @DE α d] : ∀ xs : List α, PyData.depthAll (xs.map de.toD) ≤ de.dep
  | [] => by simp [PyData.depthAll]
  | x :: xs => by
    simp only [List.map_cons, PyData.depthAll]
    exact Nat.max_le.mpr ⟨de.deep x, depAll_of xs⟩
instance deList [de : @DE α d] : @DE (List α) dList :=
  ⟨fun xs => .list (xs.map de.toD), de.dep + 1, fun ⟨a, vs, e, h, r⟩ => by subst e; exact .lst h (dpAll_of r), fun xs => by simp [PyData.plain, layAll_of], fun xs => by simp [PyData.depth, depAll_of], fun xs ys => by simp [PyData.eqv, eqvAll_of]⟩
instance deTup [de : @DE α d] : @DE (Tup α) dTup :=
  ⟨fun xs => .tuple (xs.l.map de.toD), de.dep + 1, fun ⟨a, vs, e, h, r⟩ => by subst e; exact .tup h.sq (dpAll_of r), fun xs => by simp [PyData.plain, layAll_of], fun xs => by simp [PyData.depth, depAll_of], fun xs ys => by
    obtain ⟨xs⟩ := xs
    obtain ⟨ys⟩ := ys
    simp [PyData.eqv, eqvAll_of]⟩
instance dePair {α β : Type} {d1 : Dat α} {d2 : Dat β} [de1 : @DE α d1] [de2 : @DE β d2] : @DE (α × β) dPair :=
  ⟨fun x => .tuple [de1.toD x.1, de2.toD x.2], max de1.dep de2.dep + 1, fun ⟨a, v1, v2, e, h, r1, r2⟩ => by subst e; exact .tup h.sq (.cons (de1.dp r1) (.cons (de2.dp r2) .nil)), fun x => by simp [PyData.plain, PyData.plainAll, de1.lay, de2.lay],
    fun x => by have h1 := de1.deep x.1; have h2 := de2.deep x.2; simp [PyData.depth, PyData.depthAll]; omega, fun x y => by
    obtain ⟨x1, x2⟩ := x
    obtain ⟨y1, y2⟩ := y
    simp [PyData.eqv, PyData.eqvAll, de1.eqv, de2.eqv]⟩
instance deT3 {α β γ : Type} {d1 : Dat α} {d2 : Dat β} {d3 : Dat γ} [de1 : @DE α d1] [de2 : @DE β d2] [de3 : @DE γ d3] : @DE (T3 α β γ) dT3 :=
  ⟨fun x => .tuple [de1.toD x.a, de2.toD x.b, de3.toD x.c], max de1.dep (max de2.dep de3.dep) + 1, fun ⟨a, v1, v2, v3, e, h, r1, r2, r3⟩ => by subst e; exact .tup h.sq (.cons (de1.dp r1) (.cons (de2.dp r2) (.cons (de3.dp r3) .nil))), fun x => by simp [PyData.plain, PyData.plainAll, de1.lay, de2.lay, de3.lay],
    fun x => by have h1 := de1.deep x.a; have h2 := de2.deep x.b; have h3 := de3.deep x.c; simp [PyData.depth, PyData.depthAll]; omega, fun x y => by
    obtain ⟨x1, x2, x3⟩ := x
    obtain ⟨y1, y2, y3⟩ := y
    simp [PyData.eqv, PyData.eqvAll, de1.eqv, de2.eqv, de3.eqv]⟩
instance deT4 {α β γ δ : Type} {d1 : Dat α} {d2 : Dat β} {d3 : Dat γ} {d4 : Dat δ} [de1 : @DE α d1] [de2 : @DE β d2] [de3 : @DE γ d3] [de4 : @DE δ d4] : @DE (T4 α β γ δ) dT4 :=
  ⟨fun x => .tuple [de1.toD x.a, de2.toD x.b, de3.toD x.c, de4.toD x.d], max de1.dep (max de2.dep (max de3.dep de4.dep)) + 1, fun ⟨a, v1, v2, v3, v4, e, h, r1, r2, r3, r4⟩ => by subst e; exact .tup h.sq (.cons (de1.dp r1) (.cons (de2.dp r2) (.cons (de3.dp r3) (.cons (de4.dp r4) .nil)))), fun x => by simp [PyData.plain, PyData.plainAll, de1.lay, de2.lay, de3.lay, de4.lay],
    fun x => by have h1 := de1.deep x.a; have h2 := de2.deep x.b; have h3 := de3.deep x.c; have h4 := de4.deep x.d; simp [PyData.depth, PyData.depthAll]; omega, fun x y => by
    obtain ⟨x1, x2, x3, x4⟩ := x
    obtain ⟨y1, y2, y3, y4⟩ := y
    simp [PyData.eqv, PyData.eqvAll, de1.eqv, de2.eqv, de3.eqv, de4.eqv]⟩
theorem de_shaped [de : @DE α d] (hd : de.dep ≤ 64) (x : α) : shP (de.toD x) = true := by
  unfold shP
  rw [de.lay x, decide_eq_true (Nat.le_trans (de.deep x) hd)]
  rfl
theorem de_eqv [de : @DE α d] [DecidableEq α] (x y : α) : PyData.eqv (de.toD x) (de.toD y) = decide (x = y) := by
  by_cases h : x = y
  · rw [decide_eq_true h]; exact (de.eqv x y).mpr h
  · rw [decide_eq_false h]
    cases q : PyData.eqv (de.toD x) (de.toD y) with
    | false => rfl
    | true => exact absurd ((de.eqv x y).mp q) h
theorem w_eqD [de : @DE α d] [DecidableEq α] {kb : Bool → Prop} (hd : de.dep ≤ 64) (h : R Y ta Γ d fun x => R Y tb Γ d fun y => kb (decide (x = y))) : W Y (tOp (rEqP Y.K) ta tb) Γ dBool kb := fun e F σ H s Q q => h e F σ H s _ fun v1 F1 H1 x h1 g1 r1 => h1 e F1 σ H1 (s.grow g1) _ fun v2 F2 H2 y ky g2 r2 =>
  ⟨de.toD x, de.toD y, de.dp (d.mono g2.hh0 r1), de.dp r2, de_shaped hd x, de_shaped hd y, q _ F2 H2 _ ky (g1.trans0 g2) (by rw [de_eqv]; rfl)⟩
/-! ### sets of ints -/
structure IS where
  l : List Int
def isAdd (s : IS) (k : Int) : IS := if k ∈ s.l then s else ⟨s.l ++ [k]⟩
def SetOk (S : Int → Bool) (n : Nat) (s : IS) : Prop := (∀ k, S k = decide (k ∈ s.l)) ∧ n = s.l.length
instance dSet : Dat IS := ⟨fun C F v s => ∃ a S n, v = .ref a ∧ F a = some (SetO C.w a S n) ∧ SetOk S n s, fun m ⟨a, S, n, e, h, o⟩ => ⟨a, S, n, e, m _ _ h, o⟩⟩
instance oSet : OD IS where
  orep C F v s L := ∃ a S n, v = .ref a ∧ L = [(a, SetO C.w a S n)] ∧ SetOk S n s
  omono m := fun h => h
  view := fun ⟨a, S, n, e, h, o⟩ m k => ⟨a, S, n, e, k (a, SetO _ a S n) (by rw [h]; exact List.mem_cons_self), o⟩
/-! ### dicts by ints -/
structure DI (β : Type) where
  kv : List (Int × β)
def KReps {β : Type} (d : Dat β) (C : GCtx) (F : Hp) : List (Key × V) → List (Int × β) → Prop
  | [], [] => True
  | p :: ps, x :: xs => p.1 = Sum.inl x.1 ∧ d.rep C F p.2 x.2 ∧ KReps d C F ps xs
  | _, _ => False
section
variable {F F' : Hp}
theorem KReps.mono (s : Same F F') : ∀ {ps : List (Key × V)} {xs : List (Int × α)}, KReps d C F ps xs → KReps d C F' ps xs
  | [], [], _ => trivial
  | _ :: _, _ :: _, h => ⟨h.1, d.mono s h.2.1, KReps.mono s h.2.2⟩
  | [], _ :: _, h => h.elim
  | _ :: _, [], h => h.elim
theorem KReps.len : ∀ {ps : List (Key × V)} {xs : List (Int × α)}, KReps d C F ps xs → ps.length = xs.length
  | [], [], _ => rfl
  | _ :: _, _ :: _, h => by simp [KReps.len h.2.2]
  | [], _ :: _, h => h.elim
  | _ :: _, [], h => h.elim
theorem valV_cons {κ : Type} [DecidableEq κ] (p : κ × V) (ps : List (κ × V)) (k : κ) : valV (p :: ps) k = if p.1 = k then some p.2 else valV ps k := by
  unfold valV
  by_cases h : p.1 = k
  · rw [List.find?_cons_of_pos (by simp [h]), if_pos h]; rfl
  · rw [List.find?_cons_of_neg (by simp [h]), if_neg h]
theorem lookup_cons' {β : Type} (x : Int × β) (xs : List (Int × β)) (k : Int) : (x :: xs).lookup k = if x.1 = k then some x.2 else xs.lookup k := by
  obtain ⟨a, b⟩ := x
  rw [List.lookup_cons]
  by_cases h : a = k
  · subst h; simp
  · have : (k == a) = false := by simp; exact fun z => h z.symm
    rw [this]; simp [h]
theorem KReps.look : ∀ {ps : List (Key × V)} {xs : List (Int × α)} (k : Int), KReps d C F ps xs → (∀ x, xs.lookup k = some x → ∃ v, valV ps (Sum.inl k) = some v ∧ d.rep C F v x) ∧ (xs.lookup k = none → valV ps (Sum.inl k : Key) = none)
  | [], [], k, _ => ⟨fun _ h => (nomatch h), fun _ => rfl⟩
  | p :: ps, x :: xs, k, h => by
    rw [valV_cons, lookup_cons', h.1]
    by_cases hk : x.1 = k
    · rw [if_pos hk, if_pos (by rw [hk])]
      exact ⟨fun y e => ⟨p.2, rfl, by cases e; exact h.2.1⟩, fun z => (nomatch z)⟩
    · rw [if_neg hk, if_neg (fun z => hk (Sum.inl.inj z))]
      exact KReps.look k h.2.2
  | [], _ :: _, _, h => h.elim
  | _ :: _, [], _, h => h.elim
end
/-- d[k] = v on pairs -/
def putI {β : Type} (kv : List (Int × β)) (k : Int) (v : β) : List (Int × β) := if (kv.lookup k).isSome then kv.map (fun p => if p.1 = k then (k, v) else p) else kv ++ [(k, v)]
instance dDI {α : Type} [d : Dat α] : Dat (DI α) := ⟨fun C F v x => ∃ a ps, v = .ref a ∧ F a = some (.dK ps) ∧ KReps d C F ps x.kv, fun m ⟨a, ps, e, h, r⟩ => ⟨a, ps, e, m _ _ h, r.mono m⟩⟩
instance oDI {α : Type} [d : Dat α] : OD (DI α) where
  orep C F v x L := ∃ a ps, v = .ref a ∧ L = [(a, .dK ps)] ∧ KReps d C F ps x.kv
  omono m := fun ⟨a, ps, e, h, r⟩ => ⟨a, ps, e, h, r.mono m⟩
  view := fun ⟨a, ps, e, h, r⟩ m k => ⟨a, ps, e, k (a, .dK ps) (by rw [h]; exact List.mem_cons_self), r.mono m⟩
end
end G

section
set_option maxHeartbeats 2000000
/-! G5: lists or tuples; sorted of both; data owned within data. -/
namespace SrtO
open PySem PyProof.Rows Srt
section
variable {prog : Program} {w : World} {A : Around} {E : Value → Shared → Prop} {s : Shared}
end
end SrtO
namespace L2
open PySem PySem.Spec PyProof.Rows
section
variable {X : Cx}
/-- a new record that walks: the iterator's own object, just laid -/
theorem born {pins : List (Addr × Obj)} {σ : St} {H : Hp} {s : Shared} {R : It → Hp → Prop} {tg : Expr} {J : It} {tn : Nat → Heap → Prop} {ob : Obj} (I : Inv X pins σ H s) (T : Turn X.prog X.w X.K tg J [s.heap.objs.size] s.heap.objs.size tn) (t0 : tn 0 (s.heap.push ob)) (q : R J H) :
    PIE X pins σ tg R (.ref s.heap.objs.size) { s with heap := s.heap.push ob } :=
  ⟨_, _, _, _, H, rfl, I.kept (t' := s.toks) (fun _ _ z => Heap.get?_push_of_some _ z), T, t0, fun b hb => by
    cases List.mem_singleton.mp hb
    exact I.fpOk (Nat.le_refl _) (I.hok.fresh (Nat.le_refl _)), q⟩
end
end L2
namespace G
open PySem L2
/-! ### a list or a tuple, its items alike -/
structure Sq (α : Type) where
  l : List α
  deriving DecidableEq
instance dSq {α : Type} [d : Dat α] : Dat (Sq α) :=
  ⟨fun C F v xs => ∃ a vs, v = .ref a ∧ (SqL C.K F a vs ∨ TpA C.K F a vs) ∧ Reps d C F vs xs.l, fun s ⟨a, vs, e, h, r⟩ => ⟨a, vs, e, h.imp s.seq (·.mono s), r.mono s⟩⟩
section
variable {C : GCtx} {Y : YC} {Γ : List Cell} {te ta tb tc : TE} {t u tt : TT} {α β γ δ : Type} {d1 : Dat α} {d : Dat α} {d2 : Dat β} {k : Ks} {t1 t2 ts : TS} {g : TG}
theorem w_lenQ {k : Int → Prop} (h : R Y ta Γ (dSq (d := d)) fun xs => k (xs.l.length : Int)) : W Y (tCB (fun xs H Q => ∃ p ys, xs = [.ref p] ∧ (SqL Y.K H p ys ∨ SqT Y.K H p ys) ∧ Q (.int ys.length) H) (tCons ta tNil)) Γ dInt k := fun e F σ H s Q q => h e F σ H s _ fun v F' H' x kx g ⟨a, vs, e1, h1, r⟩ => by
  subst e1
  exact ⟨a, vs, rfl, h1.imp id (·.sq), q _ F' H' _ (by rw [r.len]; exact kx) g rfl⟩
/-! ### lists owned within lists, within dicts -/
/-- each item owned: their values, their footprints one behind the other -/
def OReps {α : Type} {d : Dat α} (od : OD α) (C : GCtx) (F : Hp) : List V → List α → LO → Prop
  | [], [], L => L = []
  | v :: vs, x :: xs, L => ∃ L1 L2, L = L1 ++ L2 ∧ od.orep C F v x L1 ∧ OReps od C F vs xs L2
  | _, _, _ => False
theorem OReps.mono {od : @OD α d} {F F' : Hp} (s : Same F F') : ∀ {vs : List V} {xs : List α} {L : LO}, OReps od C F vs xs L → OReps od C F' vs xs L
  | [], [], _, h => h
  | _ :: _, _ :: _, _, ⟨L1, L2, e, h1, h2⟩ => ⟨L1, L2, e, od.omono s h1, OReps.mono s h2⟩
  | [], _ :: _, _, h => h.elim
  | _ :: _, [], _, h => h.elim
theorem OReps.view {od : @OD α d} {F H : Hp} (s : Same F H) : ∀ {vs : List V} {xs : List α} {L : LO}, OReps od C F vs xs L → (∀ p ∈ L, H p.1 = some p.2) → Reps d C H vs xs
  | [], [], _, _, _ => trivial
  | _ :: _, _ :: _, _, ⟨L1, L2, e, h1, h2⟩, k => ⟨od.view h1 s fun p hp => k p (by rw [e]; exact List.mem_append_left _ hp), OReps.view s h2 fun p hp => k p (by rw [e]; exact List.mem_append_right _ hp)⟩
  | [], _ :: _, _, h, _ => h.elim
  | _ :: _, [], _, h, _ => h.elim
theorem OReps.len {od : @OD α d} {F : Hp} : ∀ {vs : List V} {xs : List α} {L : LO}, OReps od C F vs xs L → vs.length = xs.length
  | [], [], _, _ => rfl
  | _ :: _, _ :: _, _, ⟨_, _, _, _, h2⟩ => by simp [OReps.len h2]
  | [], _ :: _, _, h => h.elim
  | _ :: _, [], _, h => h.elim
theorem OReps.append {od : @OD α d} {F : Hp} {ws : List V} {ys : List α} {M : LO} : ∀ {vs : List V} {xs : List α} {L : LO}, OReps od C F vs xs L → OReps od C F ws ys M → OReps od C F (vs ++ ws) (xs ++ ys) (L ++ M)
  | [], [], _, h, g => by cases (show _ = [] from h); exact g
  | _ :: _, _ :: _, _, ⟨L1, L2, e, h1, h2⟩, g => ⟨L1, L2 ++ M, by rw [e, List.append_assoc], h1, OReps.append h2 g⟩
  | [], _ :: _, _, h, _ => h.elim
  | _ :: _, [], _, h, _ => h.elim
theorem OReps.one {od : @OD α d} {F : Hp} {v : V} {x : α} {L : LO} (h : od.orep C F v x L) : OReps od C F [v] [x] L := ⟨L, [], by simp, h, rfl⟩
theorem OReps.at {od : @OD α d} {F : Hp} : ∀ {vs : List V} {xs : List α} {L : LO} {i : Nat} {x : α}, OReps od C F vs xs L → xs[i]? = some x → ∃ v L1 Li L2, vs[i]? = some v ∧ L = L1 ++ Li ++ L2 ∧ od.orep C F v x Li ∧ ∀ x' Li', od.orep C F v x' Li' → OReps od C F vs (xs.set i x') (L1 ++ Li' ++ L2)
  | [], [], _, i, _, _, e => by cases i <;> cases e
  | v :: vs, y :: xs, L, 0, x, ⟨L1, L2, e, h1, h2⟩, hx => by
    cases (Option.some.inj hx : y = x)
    exact ⟨v, [], L1, L2, rfl, by simpa using e, h1, fun x' Li' h => ⟨Li', L2, by simp, h, h2⟩⟩
  | v :: vs, y :: xs, L, i + 1, x, ⟨L1, L2, e, h1, h2⟩, hx => by
    obtain ⟨w, M1, Mi, M2, e1, e2, h3, f⟩ := OReps.at (i := i) h2 hx
    exact ⟨w, L1 ++ M1, Mi, M2, e1, by rw [e, e2]; simp [List.append_assoc], h3, fun x' Li' h => ⟨L1, M1 ++ Li' ++ M2, by simp [List.append_assoc], h1, f x' Li' h⟩⟩
  | [], _ :: _, _, _, _, h, _ => h.elim
  | _ :: _, [], _, _, _, h, _ => h.elim
/-- a list that owns its items -/
@[reducible] def oDeep {α : Type} {d : Dat α} (od : OD α) : @OD (List α) dList where
  orep C F v xs L := ∃ a vs L', v = .ref a ∧ L = (a, .lst vs) :: L' ∧ OReps od C F vs xs L'
  omono s := fun ⟨a, vs, L', e, h, r⟩ => ⟨a, vs, L', e, h, r.mono s⟩
  view := fun ⟨a, vs, L', e, h, r⟩ s k => ⟨a, vs, e, .inl (k (a, .lst vs) (by rw [h]; exact List.mem_cons_self)), r.view s fun p hp => k p (by rw [h]; exact List.mem_cons_of_mem _ hp)⟩
instance mDeep {α : Type} [d : Dat α] {od : OD α} [i : OIm α od] : OIm (List α) (oDeep od) := ⟨fun {C F H v xs L} t ⟨a, vs, L', e, h, r⟩ => ⟨a, vs, L', e, h, by
  have go : ∀ {vs : List V} {xs : List α} {L : LO}, OReps od C H vs xs L → OReps od C F vs xs L := by
    intro vs xs L h
    induction vs generalizing xs L with
    | nil => cases xs with
      | nil => exact h
      | cons _ _ => exact h.elim
    | cons v vs ih => cases xs with
      | nil => exact h.elim
      | cons x xs => obtain ⟨L1, L2, e, h1, h2⟩ := h; exact ⟨L1, L2, e, i.oimm t h1, ih h2⟩
  exact go r⟩⟩
/-- each value owned -/
def OKReps {β : Type} {d : Dat β} (od : OD β) (C : GCtx) (F : Hp) : List (Key × V) → List (Int × β) → LO → Prop
  | [], [], L => L = []
  | p :: ps, x :: xs, L => ∃ L1 L2, L = L1 ++ L2 ∧ p.1 = Sum.inl x.1 ∧ od.orep C F p.2 x.2 L1 ∧ OKReps od C F ps xs L2
  | _, _, _ => False
theorem OKReps.mono {od : @OD α d} {F F' : Hp} (s : Same F F') : ∀ {ps : List (Key × V)} {xs : List (Int × α)} {L : LO}, OKReps od C F ps xs L → OKReps od C F' ps xs L
  | [], [], _, h => h
  | _ :: _, _ :: _, _, ⟨L1, L2, e, hk, h1, h2⟩ => ⟨L1, L2, e, hk, od.omono s h1, OKReps.mono s h2⟩
  | [], _ :: _, _, h => h.elim
  | _ :: _, [], _, h => h.elim
theorem OKReps.view {od : @OD α d} {F H : Hp} (s : Same F H) : ∀ {ps : List (Key × V)} {xs : List (Int × α)} {L : LO}, OKReps od C F ps xs L → (∀ p ∈ L, H p.1 = some p.2) → KReps d C H ps xs
  | [], [], _, _, _ => trivial
  | _ :: _, _ :: _, _, ⟨L1, L2, e, hk, h1, h2⟩, k => ⟨hk, od.view h1 s fun p hp => k p (by rw [e]; exact List.mem_append_left _ hp), OKReps.view s h2 fun p hp => k p (by rw [e]; exact List.mem_append_right _ hp)⟩
  | [], _ :: _, _, h, _ => h.elim
  | _ :: _, [], _, h, _ => h.elim
theorem OKReps.append {od : @OD α d} {F : Hp} {ws : List (Key × V)} {ys : List (Int × α)} {M : LO} : ∀ {vs : List (Key × V)} {xs : List (Int × α)} {L : LO}, OKReps od C F vs xs L → OKReps od C F ws ys M → OKReps od C F (vs ++ ws) (xs ++ ys) (L ++ M)
  | [], [], _, h, g => by cases (show _ = [] from h); exact g
  | _ :: _, _ :: _, _, ⟨L1, L2, e, hk, h1, h2⟩, g => ⟨L1, L2 ++ M, by rw [e, List.append_assoc], hk, h1, OKReps.append h2 g⟩
  | [], _ :: _, _, h, _ => h.elim
  | _ :: _, [], _, h, _ => h.elim
/-- xs at k becomes x' (the first pair with that key) -/
def setI {β : Type} : List (Int × β) → Int → β → List (Int × β)
  | [], _, _ => []
  | p :: ps, k, x => if p.1 = k then (p.1, x) :: ps else p :: setI ps k x
theorem OKReps.at {od : @OD α d} {F : Hp} : ∀ {ps : List (Key × V)} {xs : List (Int × α)} {L : LO} {i : Int} {x : α}, OKReps od C F ps xs L → xs.lookup i = some x → ∃ v L1 Li L2, valV ps (Sum.inl i) = some v ∧ L = L1 ++ Li ++ L2 ∧ od.orep C F v x Li ∧ ∀ x' Li', od.orep C F v x' Li' → OKReps od C F ps (setI xs i x') (L1 ++ Li' ++ L2)
  | [], [], _, i, _, _, e => by cases e
  | p :: vs, y :: xs, L, i, x, ⟨L1, L2, e, hk, h1, h2⟩, hx => by
    rw [lookup_cons'] at hx
    rw [valV_cons, hk]
    unfold setI
    by_cases hi : y.1 = i
    · rw [if_pos hi] at hx
      cases (Option.some.inj hx : y.2 = x)
      refine ⟨p.2, [], L1, L2, by rw [if_pos (by rw [hi])], by simpa using e, h1, fun x' Li' h => ?_⟩
      rw [if_pos hi]
      exact ⟨Li', L2, by simp, hk, h, h2⟩
    · rw [if_neg hi] at hx
      simp only [if_neg hi]
      obtain ⟨w, M1, Mi, M2, e1, e2, h3, f⟩ := OKReps.at (i := i) h2 hx
      exact ⟨w, L1 ++ M1, Mi, M2, by rw [if_neg (fun z => hi (Sum.inl.inj z)), e1], by rw [e, e2]; simp [List.append_assoc], h3, fun x' Li' h => ⟨L1, M1 ++ Li' ++ M2, by simp [List.append_assoc], hk, h1, f x' Li' h⟩⟩
  | [], _ :: _, _, _, _, h, _ => h.elim
  | _ :: _, [], _, _, _, h, _ => h.elim
/-- a dict that owns its values -/
@[reducible] def oDeepDI {β : Type} {d : Dat β} (od : OD β) : @OD (DI β) dDI where
  orep C F v x L := ∃ a ps L', v = .ref a ∧ L = (a, .dK ps) :: L' ∧ OKReps od C F ps x.kv L'
  omono s := fun ⟨a, vs, L', e, h, r⟩ => ⟨a, vs, L', e, h, r.mono s⟩
  view := fun ⟨a, ps, L', e, h, r⟩ s k => ⟨a, ps, e, k (a, .dK ps) (by rw [h]; exact List.mem_cons_self), r.view s fun p hp => k p (by rw [h]; exact List.mem_cons_of_mem _ hp)⟩
end
end G
end

/-! G6: small helps. -/
namespace G
open PySem L2
theorem atI_of {α : Type} {xs : List α} {i : Int} {x : α} (h0 : 0 ≤ i) (h : xs[i.toNat]? = some x) : atI xs i = some x := by
  obtain ⟨j, rfl⟩ : ∃ j : Nat, i = j := ⟨i.toNat, by omega⟩
  exact atI_nat h
theorem small1k {n : Nat} (h : n ≤ 100000) : n < PySem.sizeLine := Nat.lt_of_le_of_lt h (by decide)
theorem nodup_snoc {α : Type} {xs : List α} {x : α} (h : xs.Nodup) (hx : x ∉ xs) : (xs ++ [x]).Nodup :=
  List.nodup_append.mpr ⟨h, by simp, fun a ha b hb e => hx (by rw [List.mem_singleton] at hb; rw [← hb, ← e]; exact ha)⟩
theorem rng_some {lo : Int} {n i : Nat} {x : Int} (h : rng lo n i = some x) : i < n ∧ x = lo + i := by
  unfold rng at h
  split at h
  · next hi => exact ⟨hi, by cases h; rfl⟩
  · cases h

/-! ### dict comprehensions: new keys, owned values -/
section
variable {C : GCtx} {Y : YC} {Γ : List Cell} {te ta tb tc tk tv : TE} {t u tt : TT} {α β γ δ : Type} {d1 : Dat α} {d : Dat α} {d2 : Dat β} {k : Ks} {t1 t2 ts : TS} {g : TG}
theorem KReps_has {od : @OD β d2} {F : Hp} : ∀ {ps : List (Key × V)} {xs : List (Int × β)} {L : LO}, OKReps od C F ps xs L → ps.map (·.1) = xs.map fun p => (Sum.inl p.1 : Key)
  | [], [], _, _ => rfl
  | _ :: _, _ :: _, _, ⟨_, _, _, hk, _, h2⟩ => by simp [hk, KReps_has h2]
  | [], _ :: _, _, h => h.elim
  | _ :: _, [], _, h => h.elim
theorem OKReps.none {od : @OD β d2} {F : Hp} : ∀ {ps : List (Key × V)} {xs : List (Int × β)} {L : LO} {i : Int}, OKReps od C F ps xs L → xs.lookup i = none → valV ps (Sum.inl i : Key) = none
  | [], [], _, _, _, _ => rfl
  | p :: ps, x :: xs, _, i, ⟨_, _, _, hk, _, h2⟩, e => by
    rw [lookup_cons'] at e
    rw [valV_cons, hk]
    by_cases hi : x.1 = i
    · rw [if_pos hi] at e; cases e
    · rw [if_neg hi] at e
      rw [if_neg (fun z => hi (Sum.inl.inj z))]
      exact OKReps.none h2 e
  | [], _ :: _, _, _, h, _ => h.elim
  | _ :: _, [], _, _, h, _ => h.elim
theorem OKReps.len {od : @OD β d2} {F : Hp} {ps : List (Key × V)} {xs : List (Int × β)} {L : LO} (h : OKReps od C F ps xs L) : ps.length = xs.length := by
  have := congrArg List.length (KReps_has h)
  simpa using this
theorem wipe_wipe {vs : List Nat} (σ0 : St) : wipe (wipe σ0 vs) vs = wipe σ0 vs := by
  have : ∀ (l : List Nat) (σ1 : St), (∀ j ∈ l, (σ1[j]? = none ∨ σ1[j]? = some none)) → wipe σ1 l = σ1 := by
    intro l
    induction l with
    | nil => intro _ _; rfl
    | cons j l ih =>
      intro σ1 hj
      unfold wipe
      rw [ih σ1 fun m hm => hj m (List.mem_cons_of_mem _ hm)]
      apply List.ext_getElem?
      intro m
      rw [List.getElem?_set]
      by_cases hm : j = m
      · subst hm
        rcases hj j List.mem_cons_self with z | z
        · rw [z, if_pos rfl, if_neg (Nat.not_lt.mpr (List.getElem?_eq_none_iff.mp z))]
        · rw [z, if_pos rfl, if_pos (List.getElem?_eq_some_iff.mp z).1]
      · rw [if_neg hm]
  refine this vs _ fun j hj => ?_
  cases q : (wipe σ0 vs)[j]? with
  | none => exact .inl rfl
  | some o =>
    cases o with
    | none => exact .inr rfl
    | some y => exact absurd hj (wipe_some q).2
/-! ### lists that own lists -/
/-- xs[i].append(y), the items owned -/
theorem z_appendIx {pin : Option V} {i : Nat} {xs : List (List α)} (hi : Γ[i]? = some (.own (dList (d := dList (d := d))) (oDeep (oList (d := d))) pin xs)) (h : R Y ta Γ dInt fun n => ∃ j x, ixN xs.length n = some j ∧ xs[j]? = some x ∧ W Y te Γ d fun y => x.length < PySem.sizeLine ∧ k.nx (Γ.set i (.own (dList (d := dList (d := d))) (oDeep (oList (d := d))) pin (xs.set j (x ++ [y]))))) :
    Z Y (tDrop (tBM Y.K "list" rAppend (tOp (rIxL Y.K) (tVar i) ta) (tCons te tNil))) Γ k := fun e F σ H D hM s c => by
  obtain ⟨v0, e1, r0⟩ := s.own hi
  refine ⟨v0, e1, h e F σ H s _ fun v1 F1 H1 n ⟨j, x, hj, hx, hw⟩ g1 r1 => ?_⟩
  cases (show v1 = .int n from r1)
  have st1 := s.grow g1
  obtain ⟨v, Li, rest, e2, ⟨a, vs, L', rfl, rfl, r⟩, kw, f⟩ := st1.mut hi
  rw [e1] at e2
  cases (Option.some.inj e2)
  have ha : H1 a = some (.lst vs) := (kw.ow (a, .lst vs) (by simp)).2.1
  obtain ⟨w, M1, Mi, M2, e3, e4, ⟨b, us, rfl, rfl, ru⟩, f2⟩ := r.at hx
  have hb : H1 b = some (.lst us) := (kw.ow (b, .lst us) (by rw [e4]; simp)).2.1
  refine ⟨a, vs, n, .ref b, rfl, rfl, .inl (.inl ha), by unfold atI; rw [r.len, hj]; exact e3, .inl ⟨rfl, us, .inl (.inl hb)⟩, hw e F1 σ H1 st1 _ fun y F2 H2 yv ⟨hl, ky⟩ g2 ry => ?_⟩
  have hb2 : H2 b = some (.lst us) := g2.hh0 _ _ hb
  refine ⟨b, us, y, rfl, rfl, hb2, by rw [ru.len]; exact hl, ?_⟩
  obtain ⟨v', Li', rest', e9, ⟨a', vs', L2, h30, h31, r30⟩, k9, f9⟩ := (st1.grow g2).mut hi
  rw [e1] at e9
  cases (Option.some.inj e9)
  cases h30
  subst h31
  have ha0 : H2 a = some (.lst vs') := (k9.ow (a, .lst vs') (by simp)).2.1
  rw [g2.hh0 _ _ ha] at ha0
  cases (Option.some.inj ha0)
  obtain ⟨w4, Q1, Qi, Q2, e10, e11, ⟨b4, us4, h40, h41, ru4⟩, f5⟩ := r30.at hx
  rw [e3] at e10
  cases (Option.some.inj e10)
  cases h40
  subst h41 e11
  have hb4 : H2 b = some (.lst us4) := (k9.ow (b, .lst us4) (by simp)).2.1
  rw [hb2] at hb4
  cases (Option.some.inj hb4)
  have q5 := f5 (x ++ [yv]) [(b, .lst (us ++ [y]))] ⟨b, _, rfl, rfl, ru4.append (Reps.one ry)⟩
  have k1 : Wk e F2 (((a, .lst vs) :: Q1) ++ [(b, .lst us)] ++ (Q2 ++ rest')) H2 := by simpa [List.append_assoc] using k9
  have k2 := k1.front.put (o' := .lst (us ++ [y])) (fun _ z => by cases z)
  have k3 : Wk e F2 (((a, .lst vs) :: Q1) ++ [(b, .lst (us ++ [y]))] ++ (Q2 ++ rest')) (upd H2 b (.lst (us ++ [y]))) := Wk.back (Li := [(b, .lst (us ++ [y]))]) k2
  exact c.nx F2 σ _ _ ky (f9 F2 _ ((a, .lst vs) :: (Q1 ++ [(b, .lst (us ++ [y]))] ++ Q2)) _ (Same.refl _) (by simpa [List.append_assoc] using k3) ⟨a, vs, _, rfl, rfl, q5⟩)
/-- xs.append(y), y new and owned -/
theorem z_appendO {od : @OD α d} {pin : Option V} {i : Nat} {xs : List α} (hi : Γ[i]? = some (.own (dList (d := d)) (oDeep od) pin xs)) (h : O Y te Γ od fun y => xs.length < PySem.sizeLine ∧ k.nx (Γ.set i (.own (dList (d := d)) (oDeep od) pin (xs ++ [y])))) :
    Z Y (tDrop (tBM Y.K "list" rAppend (tVar i) (tCons te tNil))) Γ k := fun e F σ H D hM s c => by
  obtain ⟨v0, _, _, e1, ⟨a0, vs0, L0, rfl, rfl, _⟩, kw0, _⟩ := s.mut hi
  have ha0 : H a0 = some (.lst vs0) := (kw0.ow (a0, .lst vs0) (by simp)).2.1
  refine ⟨.ref a0, e1, .inl ⟨rfl, vs0, .inl (.inl ha0)⟩, h e F σ H s _ fun w F' H' L' y ⟨hl, ky⟩ g rw' => ?_⟩
  obtain ⟨hx, L, k0, sl0⟩ := id s
  obtain ⟨o0, P1, Pi, P2, f1, f2, ⟨u0, rfl, hp0, a, vs, Lx, rfl, rfl, r⟩, f4⟩ := sl0.get hi
  rw [e1] at f1
  cases (Option.some.inj f1)
  subst f2
  have k1 := k0.trans g
  have ha : H' a0 = some (.lst vs) := (k1.ow (a0, .lst vs) (by simp)).2.1
  refine ⟨a0, vs, w, rfl, rfl, ha, by rw [r.len]; exact hl, ?_⟩
  have q6 := f4 F' (some (.ref a0)) (.own (dList (d := d)) (oDeep od) pin (xs ++ [y])) ((a0, .lst (vs ++ [w])) :: (Lx ++ L')) g.ff ⟨.ref a0, rfl, hp0, a0, _, _, rfl, rfl, (r.mono g.ff).append (OReps.one rw')⟩
  have z : σ.set i (some (.ref a0)) = σ := by
    apply List.ext_getElem?
    intro j
    by_cases hj : i = j
    · subst hj
      obtain ⟨hlt, hv⟩ := List.getElem?_eq_some_iff.mp e1
      rw [List.getElem?_set_self hlt, e1]
    · rw [List.getElem?_set_ne hj]
  rw [z] at q6
  refine c.nx F' σ _ _ ky ⟨hx, _, ?_, q6⟩
  have k2 : Wk e F' ((L' ++ P1) ++ [(a0, .lst vs)] ++ (Lx ++ P2)) H' := by simpa [List.append_assoc] using k1
  have k3 := k2.front.put (o' := .lst (vs ++ [w])) (fun _ z => by cases z)
  refine k3.sub (fun p hp => ?_) ?_
  · simp only [List.mem_cons, List.mem_append] at hp ⊢
    rcases hp with (h | h | h | h) | h <;> simp [h]
  · have n3 := k3.nd
    refine (List.Perm.nodup_iff (List.Perm.map _ ?_)).mp n3
    simp only [List.append_assoc, List.singleton_append, List.cons_append]
    refine List.Perm.trans ?_ List.perm_middle.symm
    refine List.Perm.cons _ ?_
    refine List.Perm.trans (List.perm_append_comm (l₁ := L')) ?_
    simp only [List.append_assoc]
    refine List.Perm.append_left _ (List.Perm.append_left _ ?_)
    exact List.perm_append_comm
theorem o_nilDeep {od : @OD α d} {kx : List α → Prop} (hk : kx []) : O Y (tLst tNil) Γ (oDeep od) kx := fun e F σ H s Q q => ⟨Nat.zero_le _, fun p hp =>
  q _ F _ _ [] hk (s.base.own hp (fun _ z => by cases z)) ⟨p, [], [], rfl, rfl, rfl⟩⟩
end
end G

/-! G7: what is owned, read as if it were frozen; comprehensions of owned items; the script. -/
namespace G
open PySem L2
section
variable {C : GCtx} {Y : YC} {Γ : List Cell} {te ta tb tc tk tv : TE} {t u tt : TT} {α β γ δ : Type} {d1 : Dat α} {d : Dat α} {d2 : Dat β} {k : Ks} {t1 t2 ts : TS} {g : TG}
theorem State.frzM {e : En} {F : Hp} {σ : St} {H : Hp} {od : @OD α d} {x : α} {i : Nat} {pin : Option V} (s : State Y e F σ H Γ) (h : Γ[i]? = some (.own d od pin x)) : ∃ e' F', Same F F' ∧ State (calm Y.g) e' F' σ H (Γ.set i (.val d x)) := by
  obtain ⟨_, L, k, sl⟩ := s
  obtain ⟨o, L1, Li, L2, e1, e2, ⟨v, rfl, hp, r⟩, f⟩ := sl.get h
  subst e2
  have kf := k.front
  have kb : Wk ⟨F, fun _ => none, []⟩ F (Li ++ (L1 ++ L2)) H := ⟨Same.refl _, fun _ _ _ z => (nomatch z), fun _ z => absurd rfl z, kf.fh, fun _ z _ => absurd rfl z, kf.tp, fun p hp => ⟨(kf.ow p hp).1, (kf.ow p hp).2.1, .inl rfl⟩, kf.nd⟩
  have ff : ∀ p ∈ Li, F p.1 = none := fun p hp => (kf.ow p (List.mem_append_left _ hp)).1
  have nd : (Li.map Prod.fst).Nodup := by
    have := kf.nd
    rw [List.map_append] at this
    exact (List.nodup_append.mp this).1
  have sm := same_plus ff nd
  have q := f (plus F Li) (some v) (.val d x) [] sm ⟨rfl, v, rfl, od.view r sm (plus_get ff nd)⟩
  have z : σ.set i (some v) = σ := by
    apply List.ext_getElem?
    intro j
    by_cases hj : i = j
    · subst hj
      obtain ⟨hlt, hv⟩ := List.getElem?_eq_some_iff.mp e1
      rw [List.getElem?_set_self hlt, e1]
    · rw [List.getElem?_set_ne hj]
  rw [z, List.append_nil] at q
  exact ⟨_, plus F Li, sm, fun _ _ _ _ _ _ z => z.elim, L1 ++ L2, kb.freeze fun p _ z => (nomatch z), q⟩
theorem w_borrow {od0 : @OD α d} {x : α} {pin : Option V} [m : @Imm β d2] {kx : β → Prop} (i : Nat) (hi : Γ[i]? = some (.own d od0 pin x)) (h : W (calm Y.g) te (Γ.set i (.val d x)) d2 kx) : W Y te Γ d2 kx := fun e F σ H s Q q => by
  obtain ⟨e', F1, sm, s1⟩ := s.frzM hi
  refine h e' F1 σ H s1 Q fun v F' H' y ky g r => ?_
  have g3 := fresh_gr s.base g
  exact q v _ H' y ky g3 (m.imm (fun a xs h => g3.tp a xs (g.fh _ _ h)) r)
/-- comprehensions whose items are new and owned -/
def CompO (Y : YC) (g : TG) (tt : TT) (te : TE) {α β : Type} (d : Dat α) {d2 : Dat β} (od : OD β) (kx : List β → Prop) (get : Nat → Option α) (n : Nat) (Γ : List Cell) : Prop :=
  ∃ I : Nat → List β → Prop, I 0 [] ∧ (∀ i x ys, get i = some x → I i ys → A Y g Γ d x fun Γ2 => T Y tt Γ2 fun b => (b = true → O Y te Γ2 od fun y => ys.length < PySem.sizeLine ∧ I (i + 1) (ys ++ [y])) ∧ (b = false → I (i + 1) ys)) ∧ ∀ ys, I n ys → kx ys
theorem compO_turn {od : @OD β d2} {e : En} {F1 : Hp} {σ : St} {H1 : Hp} {vs : List Nat} {D : Addr} {x : α} {v : V} {I I' : List β → Prop} (s1 : State Y e F1 σ H1 Γ) (hT : Tg g vs)
    (hs : ∀ ys, I ys → A Y g (wipeC Γ vs) d x fun Γ2 => T Y tt Γ2 fun b => (b = true → O Y te Γ2 od fun y => ys.length < PySem.sizeLine ∧ I' (ys ++ [y])) ∧ (b = false → I' ys)) (rx : ∀ F', Same F1 F' → d.rep Y.g F' v x) {H : Hp}
    (h : ∃ F' acc ys L, Wk ⟨F1, H1, []⟩ F' ((D, .lst acc) :: L) H ∧ OReps od Y.g F' acc ys L ∧ I ys) :
    g v (wipe σ vs) H fun σ2 H2 => wipe σ2 vs = wipe σ vs ∧ tt σ2 H2 fun b H3 =>
      if b = true then te σ2 H3 fun y H4 => ∃ acc, H4 D = some (.lst acc) ∧ acc.length < PySem.sizeLine ∧ (∃ F' acc' ys L, Wk ⟨F1, H1, []⟩ F' ((D, .lst acc') :: L) (upd H4 D (.lst (acc ++ [y]))) ∧ OReps od Y.g F' acc' ys L ∧ I' ys) else (∃ F' acc ys L, Wk ⟨F1, H1, []⟩ F' ((D, .lst acc) :: L) H3 ∧ OReps od Y.g F' acc ys L ∧ I' ys) := by
  obtain ⟨F', acc, ys, L, kw, r, hi⟩ := h
  have st := (s1.growL kw).wipe vs
  have key := hs ys hi e F' _ H v st (rx F' kw.ff) (fun σ2 H2 => tt σ2 H2 fun b H3 =>
      if b = true then te σ2 H3 fun y H4 => ∃ acc, H4 D = some (.lst acc) ∧ acc.length < PySem.sizeLine ∧ (∃ F' acc' ys L, Wk ⟨F1, H1, []⟩ F' ((D, .lst acc') :: L) (upd H4 D (.lst (acc ++ [y]))) ∧ OReps od Y.g F' acc' ys L ∧ I' ys) else (∃ F' acc ys L, Wk ⟨F1, H1, []⟩ F' ((D, .lst acc) :: L) H3 ∧ OReps od Y.g F' acc ys L ∧ I' ys)) fun σ2 Γ2 h2 st2 => by
    refine h2 e F' σ2 H st2 _ fun b F3 H3 kb g3 => ?_
    have kw3 := kw.trans0 g3
    cases b with
    | false => exact ⟨F3, acc, ys, L, kw3, r.mono g3.ff, kb.2 rfl⟩
    | true =>
      refine kb.1 rfl e F3 σ2 H3 (st2.grow g3) _ fun y F4 H4 Ly yv ⟨hl, ky⟩ g4 ry => ?_
      have kw4 := kw3.trans g4
      have r4 := r.mono (g3.ff.trans g4.ff)
      have hD : H4 D = some (.lst acc) := (kw4.ow (D, .lst acc) (by simp)).2.1
      refine ⟨acc, hD, by rw [r.len]; exact hl, F4, acc ++ [y], ys ++ [yv], L ++ Ly, ?_, r4.append (OReps.one ry), ky⟩
      have k6 : Wk ⟨F1, H1, []⟩ F4 (Ly ++ [(D, .lst acc)] ++ L) H4 := by simpa [List.append_assoc] using kw4
      have k7 : Wk ⟨F1, H1, []⟩ F4 ((D, .lst (acc ++ [y])) :: (Ly ++ L)) _ := k6.front.put (o' := .lst (acc ++ [y])) (fun _ z => by cases z)
      refine k7.sub (fun p hp => ?_) ?_
      · simp only [List.mem_cons, List.mem_append] at hp ⊢
        rcases hp with h | h | h <;> simp [h]
      · exact (List.Perm.nodup_iff (List.Perm.map _ (List.Perm.cons _ List.perm_append_comm))).mp k7.nd
  have key2 := hT v _ H _ key
  rw [wipe_wipe] at key2
  exact key2
/-- the script, as the law takes it -/
theorem Fn.script {K : PySem.W.Frag} {P : Program} {w : World} {H : Hp} {a : Addr} {ns : List Int} (hS : SqL K H a (ns.map V.int)) : Fn ⟨P, w, K⟩ [.val (dSq (d := dInt)) ⟨ns⟩] (fun c => c = cv true) [.ref a] H (fun v _ => v = .bl true) :=
  ⟨H, ⟨Same.refl _, fun _ _ _ h => h, fun _ h => h, Same.refl _, fun _ _ h => h, fun _ _ h => h, fun _ h => (nomatch h), List.nodup_nil⟩, Slots.cons (L := []) ⟨rfl, .ref a, rfl, a, _, rfl, .inl hS, Reps.ofInts ns⟩ .nil, fun v F' H' c L e _ ok => by
    subst e
    obtain ⟨_, v', e', r⟩ := ok
    cases (Option.some.inj e')
    exact r⟩
end
end G

/-! G8: stores into dicts, slices, items that change their list, lists picked out of owned lists. -/
namespace G
open PySem L2
section
variable {C : GCtx} {Y : YC} {Γ : List Cell} {te ta tb tc tk tv : TE} {t u tt : TT} {α β γ δ : Type} {d1 : Dat α} {d : Dat α} {d2 : Dat β} {k : Ks} {t1 t2 ts : TS} {g : TG}
/-! d[k] = v -/
theorem KReps.map_put {F : Hp} {v : V} {x : α} {n : Int} (hv : d.rep C F v x) : ∀ {ps : List (Key × V)} {xs : List (Int × α)}, KReps d C F ps xs → KReps d C F (ps.map fun kv => if kv.1 = Sum.inl n then (kv.1, v) else kv) (xs.map fun p => if p.1 = n then (n, x) else p)
  | [], [], _ => trivial
  | p :: ps, y :: ys, h => by
    rw [List.map_cons, List.map_cons]
    by_cases hn : y.1 = n
    · rw [if_pos hn, if_pos (by rw [h.1, hn])]
      exact ⟨by show p.1 = Sum.inl n; rw [h.1, hn], hv, KReps.map_put hv h.2.2⟩
    · rw [if_neg hn, if_neg (by rw [h.1]; exact fun z => hn (Sum.inl.inj z))]
      exact ⟨h.1, h.2.1, KReps.map_put hv h.2.2⟩
  | [], _ :: _, h => h.elim
  | _ :: _, [], h => h.elim
theorem KReps.snoc {F : Hp} {v : V} {x : α} {n : Int} (hv : d.rep C F v x) : ∀ {ps : List (Key × V)} {xs : List (Int × α)}, KReps d C F ps xs → KReps d C F (ps ++ [(Sum.inl n, v)]) (xs ++ [(n, x)])
  | [], [], _ => ⟨rfl, hv, trivial⟩
  | _ :: _, _ :: _, h => ⟨h.1, h.2.1, KReps.snoc hv h.2.2⟩
  | [], _ :: _, h => h.elim
  | _ :: _, [], h => h.elim
theorem KReps.put {F : Hp} {ps : List (Key × V)} {xs : List (Int × α)} {v : V} {x : α} {n : Int} (h : KReps d C F ps xs) (hv : d.rep C F v x) : KReps d C F (putK ps (Sum.inl n) v) (putI xs n x) := by
  unfold putK putI
  have l := h.look n
  rw [valV_any]
  cases q : xs.lookup n with
  | none =>
    rw [l.2 q, if_neg (fun z => (nomatch z)), if_neg (fun z => (nomatch z))]
    exact h.snoc hv
  | some y =>
    obtain ⟨w, hw, _⟩ := l.1 y q
    rw [hw]
    exact h.map_put hv
/-! slices -/
def cutL {α : Type} (xs : List α) (lo hi : Option Int) : List α := (xs.drop (HT.sIx xs.length 0 lo)).take (HT.sIx xs.length xs.length hi - HT.sIx xs.length 0 lo)
/-! xs.append(ys.pop(i)) -/
theorem Reps.erase {F : Hp} : ∀ {vs : List V} {xs : List α} (i : Nat), Reps d C F vs xs → Reps d C F (vs.eraseIdx i) (xs.eraseIdx i)
  | [], [], _, _ => by simp [Reps]
  | _ :: _, _ :: _, 0, h => h.2
  | _ :: _, _ :: _, i + 1, h => ⟨h.1, Reps.erase i h.2⟩
  | [], _ :: _, _, h => h.elim
  | _ :: _, [], _, h => h.elim
/-! parts of what is owned -/
theorem Slots.wipe {F : Hp} {σ : St} {L : LO} (h : Slots C F σ Γ L) : ∀ vs : List Nat, ∃ L', L'.Sublist L ∧ Slots C F (wipe σ vs) (wipeC Γ vs) L'
  | [] => ⟨L, List.Sublist.refl _, h⟩
  | v :: vs => by
    obtain ⟨L1, h1, h2⟩ := Slots.wipe h vs
    unfold L2.wipe wipeC
    cases q : (wipeC Γ vs)[v]? with
    | some c =>
      obtain ⟨o, M1, Mi, M2, e1, e2, _, f⟩ := h2.get q
      refine ⟨M1 ++ M2, ?_, by simpa using f F none .no [] (Same.refl F) rfl⟩
      refine List.Sublist.trans ?_ h1
      rw [e2, List.append_assoc]
      exact List.Sublist.append_left (List.sublist_append_right _ _) _
    | none =>
      have l1 : (wipeC Γ vs).length ≤ v := List.getElem?_eq_none_iff.mp q
      have l2 : (L2.wipe σ vs).length ≤ v := by rw [h2.len]; exact l1
      rw [List.set_eq_of_length_le l1, List.set_eq_of_length_le l2]
      exact ⟨L1, h1, h2⟩
/-! [x for x in OWNED if t]: the owned items that are picked -/
/-! for x in OWNED: x.append(n) -/
end
end G

/-! E1: super().__init__('..') within the __init__ of an own exception class. -/
namespace G
open PySem PySem.Spec PyProof.Rows L2 PySem.W
theorem super_init {X : Cx} {pins : List (Addr × Obj)} {σ : L2.St} {H : Hp} {s : Shared} {Q : Flow → Shared → Prop} {E : Value → Shared → Prop} {body : List Stmt} {f cc cda D a C : Addr} {fd : FuncData} {ar : Arg} {vs : Array Value} {file : Str} {tf : Tok}
    {oc ccl cl : Value} {od cdd cld : Option Addr} {osl ccs csl : Array (Option Value)} {cdD cdC : ClassData} {m : Str} {j : Nat} {p0 p1 p2 p3 p4 p5 : Pos} {pl : Sem Bool}
    (I : Inv X pins σ H s) (hfun : X.env.func = some f) (hcode : X.env.code = .ref cda) (hks : X.env.kindOf "super" = some .globalImplicit) (hkc : X.env.kindOf "__class__" = some .free) (hcl : X.env.cells.lookup ("__class__" : Str) = some cc)
    (kf : X.K.lookup f = some ⟨oc, od, .func fd, osl⟩) (hp : (fd.params.posonlyargs ++ fd.params.args).head? = some ar) (hN : X.N[0]? = some ar.arg) (hl : X.env.kindOf ar.arg = some .local) (h0 : σ[0]? = some (some (.ref a)))
    (kcell : X.K.lookup cc = some ⟨cl, cld, .cell (some (.ref D)), csl⟩) (kcode : X.K.lookup cda = some ⟨ccl, cdd, .fields vs, ccs⟩) (hvs : vs[2]? = some (.str file tf)) (hfile : ((X.prog.main.file : Str) == file) = true)
    (kD : clsIn X.K D = some cdD) (kC : clsIn X.K C = some cdC) (hsub : mroIn X.K C (.ref D) = some true) (hsup : X.mg "super" = none) (htop : (X.prog.main.scope.names.lookup ("super" : Str)).isSome = false)
    (hst : nsIn X.K cStatics "thirdparty.any" = some none) (hin : ks_superIn X.K C D "__init__" = some (some (.builtin "ValueError.__init__"))) (hB : subIn X.K (.ref C) (.type "ValueError") = some true)
    (T : OexC X.K C) (ea : H a = some (exo a C none)) (hq : ∀ s', Inv X pins σ H s' → Q .next s')
    (he : eval (.Call (.Attribute (.Call (.Name "super" p0) [] [] p1) "__init__" p2) [.Constant (.str m) j p3] [] p4) X.env = (do
      let ov ← attributeBase (.Call (.Name "super" p0) [] [] p1) "__init__" X.env (eval (.Call (.Name "super" p0) [] [] p1) X.env)
      standAt p2.atName
      let (f, first) ← holding [ov] (getMethod ov "__init__" pl)
      callWith p4 f first (backTo p4 (starEach [.Constant (.str m) j p3] X.env)) [])) :
    _root_.PySem.wpAt (model X.prog X.w) X.A (.func body X.env) (exec (.Expr (.Call (.Attribute (.Call (.Name "super" p0) [] [] p1) "__init__" p2) [.Constant (.str m) j p3] [] p4) p5) X.env) Q E s := by
  obtain ⟨nm, q, N, bs, bm, sn, sub, ab, col, dd, k0, k1, k2, k3, k5, hC, hbm⟩ := T.cls
  obtain ⟨t1, ho⟩ := exo_at I.hok ea
  refine ks_wpAt_Expr_any (hs := ?hs) ?hm I.quiet
  case hs => rfl
  refine ks_wpAt_MethodCall (he := he) ?_
  refine ks_wpAt_super_base hks hkc rfl hfun (I.kIn _ _ kf) rfl hp hcode (I.kIn _ _ kcode) rfl hvs hfile htop ?_
  obtain ⟨mb, b1, b2⟩ := I.mod.blt
  refine ks_loadName_global I.ok.kind hks (Calls.loadGlobal_builtin (by rw [I.ok.glob]; exact I.mod.glob.keeps I.bk) hsup (by rw [I.ok.blt]; exact b1.keeps I.bk) ((b2 _ (by decide)).trans (PyProof.Rows.Boot.«super»)) ⟨rfl, ?_⟩)
  refine wpAny_loadName_free I.ok.kind hkc hcl ⟨_, I.kIn _ _ kcell, rfl⟩ ?_
  obtain ⟨mm, hn, hlk⟩ := I.loc
  obtain ⟨u0, ru, lk⟩ := hlk 0 ar.arg (.ref a) hN h0 (.inl hl)
  obtain rfl : u0 = Value.ref a := ru
  have hm0 : mm ar.arg = some (.ref a) := by
    rcases lk with ⟨_, h⟩ | ⟨h, _⟩
    · exact h
    · rw [hl] at h; rcases h with h | h <;> cases h
  refine wpAny_loadName_local I.ok.kind hl hn hm0 ?_
  obtain ⟨oD, hD1, hD2⟩ : ∃ oD, s.heap.get? D = some oD ∧ oD.data = .cls cdD := by
    unfold clsIn at kD
    split at kD
    · rename_i c d cd' sl hoD
      cases kD
      exact ⟨_, I.kIn _ _ hoD, rfl⟩
    · cases kD
  refine ks_wpAny_isType_cls hD1 hD2 ⟨rfl, ?_⟩
  have hty : Looks (model X.prog X.w) s.heap (typeOf (.ref a)) (.ref C) := (InstAt.mk (ox := ({ cls := .ref C, dict := none, data := .fields #[.ref t1, .none, .none, .none, .bool false, .none] } : Obj)) (od := none) ho rfl rfl trivial).type
  obtain ⟨hh, g, d, t, os⟩ := s
  refine ks_wpAny_call_super hD1 hD2 ho rfl (fun c e => by cases e) (looks_mroIn I.kIn hsub) (fun h' e k => ?_)
  have I1 : Inv X pins σ H ⟨h', g, d, t, os⟩ := I.kept (t' := t) k
  have hI : Looks (model X.prog X.w) h' (isInstance (.ref a) (.type "ValueError")) true := (hty.keeps k).andThen (looks_subIn I1.kIn hB)
  have hne : a ≠ C := fun z => by
    have h1 := I.kIn _ _ hC
    rw [← z, show (Shared.heap ⟨hh, g, d, t, os⟩).get? a = _ from ho] at h1
    cases h1
  have hmr : Looks (model X.prog X.w) h' (mroOf (.ref C)) cdC.mro := fun A Q E s k q => wpAny_bind ((looks_clsIn I1.kIn kC) A _ E s k (wpAny_pure q))
  have hin' : alongIn X.K "__init__" ((cdC.mro.dropWhile (· != .ref D)).drop 1) = some (some (.builtin "ValueError.__init__")) := by
    unfold ks_superIn at hin
    rw [kC] at hin
    exact hin
  refine kxs_getMethod kxs_ValueError e (looks_opaque I1.kIn hst) (l₀ := cdC.mro) hmr rfl I1.kIn hin' hI hne rfl ?_
  have hu : (h'.push (kxs_mw "ValueError.__init__" a)).get? h'.objs.size = some (kxs_mw "ValueError.__init__" a) := Heap.get?_push_at rfl rfl
  have I2 : Inv X pins σ H ⟨h'.push (kxs_mw "ValueError.__init__" a), g, d, t + 1, os⟩ := I1.kept (t' := t + 1) fun b o e => Heap.get?_push_of_some _ e
  refine kxs_callWith (i := "ValueError.__init__") (x := a) rfl ?_
  show wpAny _ _ (evalArgs _ true ((false, eval (.Constant (.str m) j p3) X.env) :: []) []) _ _ _
  refine Calls.evalArgs_plain (Calls.spliced_cons (Calls.Constant_str (Calls.spliced_nil ⟨hu, ?_⟩)))
  have I3 : Inv X pins σ H ⟨h'.push (kxs_mw "ValueError.__init__" a), g, d, t + 1 + 1, os⟩ := I2.kept (t' := t + 1 + 1) fun b o e => e
  obtain ⟨t2, ho2⟩ := exo_at I3.hok ea
  show wpAny _ _ (call (.ref h'.objs.size) [.str m (t + 1)]) _ _ _
  refine wpAny_call (codeAny_of_tree ?_)
  show wpAny _ X.A.in1 (callAny (.ref h'.objs.size) ⟨[.str m (t + 1)], []⟩) _ _ _
  simp only [callAny]
  refine wpAny_bind (wpAny_load hu ?_)
  simp only [kxs_mw, show (Value.type "method-wrapper" == Value.type "method" || Value.type "method-wrapper" == Value.type "builtin_function_or_method" || Value.type "method-wrapper" == Value.type "method-wrapper") = true by decide, if_true]
  refine KFB.if_so (by decide) ?_
  refine wpAny_bind (check_bound_init F.excBase_ValueError.toExcCallFacts (I3.kIn _ _ hC) ho2 rfl ?_)
  refine wpAny_bind (wpAny_pure (wpAny_pure ?_))
  refine ⟨plainId_quiet F.excBase_ValueError.init.plain _, codeAny_builtin F.excBase_ValueError.initEntry ?_⟩
  refine exc_init_tree (cls := .ref C) (t0 := t2) (dv := none) (c2 := .none) (c3 := .none) (b4 := .bool false) ho2 (by show 1 ≤ sizeLine; rw [sizeLine_eq]; omega) fun h3 k3 e3 e4 => ?_
  have J := I3.write (t' := t + 1 + 1) (x := a) (e := a) (o := exo a C none) (by rw [ea]; exact True.intro) (.inl rfl) k3 ⟨_, e3⟩ (exo_ok e3)
  have eu : upd H a (exo a C none) = H := by
    funext b
    by_cases hb : b = a
    · rw [hb, upd_same, ea]
    · rw [upd_ne hb]
  rw [eu] at J
  exact hq _ J

/-- a class's __init__ that begins with super().__init__('..'): the rest of its body -/
theorem fok_super {P : Program} {w : World} {K : Frag} {mg : Str → Option Value} {base : Heap} {CXt : CXT} {k : Nat} {f cc D : Addr} {N ps : List Str} {F : NdefX.NF} {doc pm ctv : Value} {sp : Sp} {rest : List Stmt} {ar : Arg} {vs0 : Array Value} {file : Str} {tf : Tok}
    {oc ccl cl : Value} {od cdd cld : Option Addr} {osl ccs csl : Array (Option Value)} {cdD : ClassData} {m : Str} {j : Nat} {p0 p1 p2 p3 p4 p5 : Pos} {pl : Sem Bool}
    (S : NdefX.NScope N ps ["__class__"] F.scope) (hF : F.cl = [(("__class__" : Str), cc)]) (hb : F.body = .Expr (.Call (.Attribute (.Call (.Name "super" p0) [] [] p1) "__init__" p2) [.Constant (.str m) j p3] [] p4) p5 :: rest)
    (hks : F.scope.names.lookup ("super" : Str) = some .globalImplicit) (kf : K.lookup f = some ⟨oc, od, .func (F.fd doc pm ctv), osl⟩) (hp : (F.params.posonlyargs ++ F.params.args).head? = some ar) (hN : N[0]? = some ar.arg) (hl : F.scope.names.lookup ar.arg = some .local)
    (kcell : K.lookup cc = some ⟨cl, cld, .cell (some (.ref D)), csl⟩) (kcode : K.lookup F.c = some ⟨ccl, cdd, .fields vs0, ccs⟩) (hvs : vs0[2]? = some (.str file tf)) (hcd : codeIn K (.ref F.c) F.qual = true) (hfile : ((P.main.file : Str) == file) = true)
    (kD : clsIn K D = some cdD) (hsup : mg "super" = none) (htop : (P.main.scope.names.lookup ("super" : Str)).isSome = false) (hst : nsIn K cStatics "thirdparty.any" = some none)
    (he : ∀ env : Env, eval (.Call (.Attribute (.Call (.Name "super" p0) [] [] p1) "__init__" p2) [.Constant (.str m) j p3] [] p4) env = (do
      let ov ← attributeBase (.Call (.Name "super" p0) [] [] p1) "__init__" env (eval (.Call (.Name "super" p0) [] [] p1) env)
      standAt p2.atName
      let (f, first) ← holding [ov] (getMethod ov "__init__" pl)
      callWith p4 f first (backTo p4 (starEach [.Constant (.str m) j p3] env)) []))
    (len : ∀ vs H Q E, sp vs H Q E → vs.length = ps.length)
    (walk : ∀ (A : Around) (outer : List Env) (s : Shared) (H : Hp) (vs : List V) (Q : VK) (E : XK), Room k (A.deeper (NdefX.envF F f s.heap.objs.size)) → sp vs H Q E →
      ∃ a C cdC, vs[0]? = some (.ref a) ∧ H a = some (exo a C none) ∧ OexC K C ∧ clsIn K C = some cdC ∧ mroIn K C (.ref D) = some true ∧ ks_superIn K C D "__init__" = some (some (.builtin "ValueError.__init__")) ∧ subIn K (.ref C) (.type "ValueError") = some true ∧
        ∃ t, PSs (NdefX.ncx CXt P w K mg base N F f A outer s H E) rest t ∧ t { nx := fun _ H' => Q .non H', rt := Q } (NdefX.startF N vs [some (.ref D)]) H) :
    FnOk P w K mg base CXt (k + 1) f (F.fd doc pm ctv) ps sp := by
  refine ⟨len, fun A outer s H args us vs Q E hr e0 hbind r hsp => ?_⟩
  have hlen := len _ _ _ _ hsp
  have kin : K.In s.heap := fun a o e => (e0.bs a o (e0.mod.kin a o e)).1
  have lim : s.heap.NoLimit := e0.mod.nolimit.keeps fun b o e => (e0.bs b o e).1
  have hc0 : H cc = none := (e0.bs cc _ (e0.mod.kin _ _ kcell)).2
  have cls1 : ∀ y c, F.cl.lookup y = some c → y = ("__class__" : Str) ∧ c = cc := fun y c e => by
    rw [hF, List.lookup_cons] at e
    split at e
    · rename_i z
      cases e
      exact ⟨by simpa using z, rfl⟩
    · cases e
  have C0 : NdefX.CellsAt F.cl ["__class__"] [some (.ref D)] s.heap H := by
    refine ⟨rfl, fun y c e => ?_, fun x y c e1 e2 => ?_, fun i y e => ?_⟩
    · obtain ⟨_, rfl⟩ := cls1 y c e
      exact ⟨hc0, _, _, kin _ _ kcell, rfl⟩
    · rw [(cls1 x c e1).1, (cls1 y c e2).1]
    · cases i with
      | zero =>
        cases (Option.some.inj e)
        refine ⟨cc, by rw [hF]; rfl, fun v hv => ?_⟩
        cases hv
        exact ⟨.ref D, rfl, _, kin _ _ kcell, rfl⟩
      | succ i => cases e
  refine ks_codeAny_call_defAt (fd := F.fd doc pm ctv) hr.depth (kin _ _ kf) rfl lim (codeRec_of kin hcd) rfl hbind S.nocell (fun ⟨n, _⟩ hy => S.par n (List.of_mem_zip hy).1) (fun h₁ hns kp => ?_) S.co S.gen S.kind
  obtain ⟨a, C, cdC, v0, ea, T, kC, hsub, hin, hB, t, ht, hq⟩ := walk A outer s H vs Q E (hr.deeper _) hsp
  have I : Inv (NdefX.ncx CXt P w K mg base N F f A outer s H E) [] (NdefX.startF N vs [some (.ref D)]) H { s with heap := h₁, toks := s.toks + (ps.zip us).length } := NdefX.inv_startN S hr.hd e0 hlen r C0 hns kp
  have h0 : (NdefX.startF N vs [some (V.ref D)])[0]? = some (some (.ref a)) := by
    unfold NdefX.startF
    have : 0 < vs.length := (List.getElem?_eq_some_iff.mp v0).1
    rw [List.getElem?_append_left (by rw [List.length_map]; exact this), List.getElem?_map, v0]
    rfl
  show _root_.PySem.wpAt (model P w) (A.deeper (NdefX.envF F f s.heap.objs.size)) (.func F.body (NdefX.envF F f s.heap.objs.size)) (execs F.body (NdefX.envF F f s.heap.objs.size)) _ _ _
  have fin : ∀ {s' : Shared} {σ' : L2.St} {H' : Hp} {v : V} {u : Value}, Inv (NdefX.ncx CXt P w K mg base N F f A outer s H E) [] σ' H' s' → L2.RelV v u → Q v H' → CE outer P w H s Q u s' :=
    fun {s' σ' H' v u} J rv q => ⟨v, H', J.os, J.bare, J.base, J.hok, rv, q⟩
  rw [show execs F.body (NdefX.envF F f s.heap.objs.size) = execs (_ :: rest) (NdefX.envF F f s.heap.objs.size) from congrArg (fun b => execs b _) hb]
  refine ks_wpAt_execs_cons ?_
  refine super_init (X := NdefX.ncx CXt P w K mg base N F f A outer s H E) (a := a) (C := C) I rfl rfl hks (S.frk _ (by simp)) (by show F.cl.lookup _ = _; rw [hF]; rfl) kf hp hN hl h0 kcell kcode hvs hfile kD kC hsub hsup htop hst hin hB T ea (fun s' I' => ?_) (he _)
  refine _root_.PySem.wpAt_of_wpAny (wpAny_mono (ht.run [] _ _ H _ I' hq) (fun fl s' hs => ?_) fun e s' hs => hs)
  cases fl with
  | ret u =>
    obtain ⟨v, σ', H', J, rv, q⟩ := hs
    exact fin J rv q
  | next =>
    obtain ⟨σ', H', J, q⟩ := hs
    exact fin (v := V.non) (u := Value.none) J rfl q
  | brk =>
    obtain ⟨_, _, _, q⟩ := hs
    exact False.elim q
  | cont =>
    obtain ⟨_, _, _, q⟩ := hs
    exact False.elim q
end G

/-! E2: exceptions of one and of two attributes: their __init__, raising them. -/
namespace G
open PySem PySem.Spec PyProof.Rows L2 PySem.W
/-- what __init__ of one attribute promises -/
def spX1 (C : Addr) (f1 : Str) : Sp := fun vs H Q _ => ∃ a v, vs = [.ref a, v] ∧ H a = some (exo a C none) ∧ ∀ d, H d = none → d ≠ a → Q .non (upd (upd H d (exd d [(f1, v)])) a (exo a C (some d)))
def spX2 (C : Addr) (f1 f2 : Str) : Sp := fun vs H Q _ => ∃ a v1 v2, vs = [.ref a, v1, v2] ∧ H a = some (exo a C none) ∧ ∀ d, H d = none → d ≠ a → Q .non (upd (upd (upd H d (exd d [(f1, v1)])) a (exo a C (some d))) d (exd d [(f2, v2), (f1, v1)]))
/-- what the written part says of such a class -/
structure XCls (K : Frag) (D fI : Addr) : Prop where
  T : OexC K D
  cls : ∃ cd, clsIn K D = some cd
  self : mroIn K D (.ref D) = some true
  sup : ks_superIn K D D "__init__" = some (some (.builtin "ValueError.__init__"))
  ve : subIn K (.ref D) (.type "ValueError") = some true
  init : findIn K (.ref D) "__init__" = some (some (.ref fI))
  fn : typeIn K (.ref fI) = some (.type "function")
section
variable {P : Program} {w : World} {K : Frag} {mg : Str → Option Value} {base : Heap} {CXt : CXT} {k : Nat} {f cc D : Addr} {ps : List Str} {F : NdefX.NF} {doc pm ctv : Value} {ar : Arg} {vs0 : Array Value} {file : Str} {tf : Tok}
    {oc ccl cl : Value} {od cdd cld : Option Addr} {osl ccs csl : Array (Option Value)} {m : Str} {j : Nat} {p0 p1 p2 p3 p4 p5 q1 q2 q3 q4 r1 r2 r3 r4 : Pos} {pl : Sem Bool} {f1 f2 x1 x2 : Str}
theorem fok_exc1 (S : NdefX.NScope [ar.arg, x1, "__class__"] [ar.arg, x1] ["__class__"] F.scope) (hF : F.cl = [(("__class__" : Str), cc)])
    (hb : F.body = [.Expr (.Call (.Attribute (.Call (.Name "super" p0) [] [] p1) "__init__" p2) [.Constant (.str m) j p3] [] p4) p5, .Assign [.Attribute (.Name ar.arg q1) f1 q2] (.Name x1 q3) q4])
    (hd1 : (ar.arg == ("__debug__" : Str)) = false) (hc1 : (ar.arg == ("__classdict__" : Str)) = false) (hd2 : (x1 == ("__debug__" : Str)) = false) (hc2 : (x1 == ("__classdict__" : Str)) = false)
    (hks : F.scope.names.lookup ("super" : Str) = some .globalImplicit) (kf : K.lookup f = some ⟨oc, od, .func (F.fd doc pm ctv), osl⟩) (hp : (F.params.posonlyargs ++ F.params.args).head? = some ar)
    (kcell : K.lookup cc = some ⟨cl, cld, .cell (some (.ref D)), csl⟩) (kcode : K.lookup F.c = some ⟨ccl, cdd, .fields vs0, ccs⟩) (hvs : vs0[2]? = some (.str file tf)) (hcd : codeIn K (.ref F.c) F.qual = true) (hfile : ((P.main.file : Str) == file) = true)
    (X : XCls K D f) (hno : findIn K (.ref D) f1 = some none) (hsup : mg "super" = none) (htop : (P.main.scope.names.lookup ("super" : Str)).isSome = false) (hst : nsIn K cStatics "thirdparty.any" = some none)
    (he : ∀ env : Env, eval (.Call (.Attribute (.Call (.Name "super" p0) [] [] p1) "__init__" p2) [.Constant (.str m) j p3] [] p4) env = (do
      let ov ← attributeBase (.Call (.Name "super" p0) [] [] p1) "__init__" env (eval (.Call (.Name "super" p0) [] [] p1) env)
      standAt p2.atName
      let (f, first) ← holding [ov] (getMethod ov "__init__" pl)
      callWith p4 f first (backTo p4 (starEach [.Constant (.str m) j p3] env)) [])) :
    FnOk P w K mg base CXt (k + 1) f (F.fd doc pm ctv) [ar.arg, x1] (spX1 D f1) := by
  obtain ⟨cdD, kD⟩ := X.cls
  refine fok_super (N := [ar.arg, x1, "__class__"]) (rest := _) S hF hb hks kf hp rfl (S.par _ (by simp)) kcell kcode hvs hcd hfile kD hsup htop hst he (fun vs H Q E ⟨a, v, e, _⟩ => by rw [e]; rfl) (fun A outer s H vs Q E hr ⟨a, v, e, ea, q⟩ => ?_)
  subst e
  refine ⟨a, D, cdD, rfl, ea, X.T, kD, X.self, X.sup, X.ve, _, pss_one (ps_ost (pe_var (i := 0) rfl (.inl (S.par _ (by simp))) hd1 hc1) (pe_var (i := 1) rfl (.inl (S.par _ (by simp))) hd2 hc2) rfl), ?_⟩
  exact ⟨v, rfl, .ref a, rfl, a, D, rfl, X.T, hno, .inl ⟨ea, fun dx n ne => q dx n ne⟩⟩
theorem fok_exc2 (S : NdefX.NScope [ar.arg, x1, x2, "__class__"] [ar.arg, x1, x2] ["__class__"] F.scope) (hF : F.cl = [(("__class__" : Str), cc)])
    (hb : F.body = [.Expr (.Call (.Attribute (.Call (.Name "super" p0) [] [] p1) "__init__" p2) [.Constant (.str m) j p3] [] p4) p5, .Assign [.Attribute (.Name ar.arg q1) f1 q2] (.Name x1 q3) q4, .Assign [.Attribute (.Name ar.arg r1) f2 r2] (.Name x2 r3) r4])
    (hd1 : (ar.arg == ("__debug__" : Str)) = false) (hc1 : (ar.arg == ("__classdict__" : Str)) = false) (hd2 : (x1 == ("__debug__" : Str)) = false) (hc2 : (x1 == ("__classdict__" : Str)) = false) (hd3 : (x2 == ("__debug__" : Str)) = false) (hc3 : (x2 == ("__classdict__" : Str)) = false)
    (hks : F.scope.names.lookup ("super" : Str) = some .globalImplicit) (kf : K.lookup f = some ⟨oc, od, .func (F.fd doc pm ctv), osl⟩) (hp : (F.params.posonlyargs ++ F.params.args).head? = some ar)
    (kcell : K.lookup cc = some ⟨cl, cld, .cell (some (.ref D)), csl⟩) (kcode : K.lookup F.c = some ⟨ccl, cdd, .fields vs0, ccs⟩) (hvs : vs0[2]? = some (.str file tf)) (hcd : codeIn K (.ref F.c) F.qual = true) (hfile : ((P.main.file : Str) == file) = true)
    (X : XCls K D f) (hno : findIn K (.ref D) f1 = some none) (hno2 : findIn K (.ref D) f2 = some none) (hsup : mg "super" = none) (htop : (P.main.scope.names.lookup ("super" : Str)).isSome = false) (hst : nsIn K cStatics "thirdparty.any" = some none)
    (he : ∀ env : Env, eval (.Call (.Attribute (.Call (.Name "super" p0) [] [] p1) "__init__" p2) [.Constant (.str m) j p3] [] p4) env = (do
      let ov ← attributeBase (.Call (.Name "super" p0) [] [] p1) "__init__" env (eval (.Call (.Name "super" p0) [] [] p1) env)
      standAt p2.atName
      let (f, first) ← holding [ov] (getMethod ov "__init__" pl)
      callWith p4 f first (backTo p4 (starEach [.Constant (.str m) j p3] env)) [])) :
    FnOk P w K mg base CXt (k + 1) f (F.fd doc pm ctv) [ar.arg, x1, x2] (spX2 D f1 f2) := by
  obtain ⟨cdD, kD⟩ := X.cls
  refine fok_super (N := [ar.arg, x1, x2, "__class__"]) (rest := _) S hF hb hks kf hp rfl (S.par _ (by simp)) kcell kcode hvs hcd hfile kD hsup htop hst he (fun vs H Q E ⟨a, v1, v2, e, _⟩ => by rw [e]; rfl) (fun A outer s H vs Q E hr ⟨a, v1, v2, e, ea, q⟩ => ?_)
  subst e
  refine ⟨a, D, cdD, rfl, ea, X.T, kD, X.self, X.sup, X.ve, _, pss_cons (ps_ost (pe_var (i := 0) rfl (.inl (S.par _ (by simp))) hd1 hc1) (pe_var (i := 1) rfl (.inl (S.par _ (by simp))) hd2 hc2) rfl) (pss_one (ps_ost (pe_var (i := 0) rfl (.inl (S.par _ (by simp))) hd1 hc1) (pe_var (i := 2) rfl (.inl (S.par _ (by simp))) hd3 hc3) rfl)), ?_⟩
  refine ⟨v1, rfl, .ref a, rfl, a, D, rfl, X.T, hno, .inl ⟨ea, fun dx n ne => ?_⟩⟩
  refine ⟨v2, rfl, .ref a, rfl, a, D, rfl, X.T, hno2, .inr ⟨dx, [(f1, v1)], upd_same, ?_, by show 1 ≤ 900; omega, q dx n ne⟩⟩
  rw [upd_ne ne, upd_same]
end
/-! raising -/
section
variable {Y : YC} {Γ : List Cell} {k : Ks} {te t1 t2 : TE} {Cx : Addr} {f1 f2 : Str} {Wt : WX}
theorem z_raise1 (hE : Y.E = WE Wt) (h : R Y te Γ dInt fun n => Y.kx ⟨Cx, some [(f1, .int n)]⟩ Γ) : Z Y (fun _ σ H => tMkO Cx (spX1 Cx f1) [] (tCons te tNil) σ H fun cls d H' => Wt cls d σ H') Γ k := fun e F σ H D hM s c => h e F σ H s _ fun v F1 H1 n kn g r => by
  cases (show v = .int n from r)
  refine ⟨by show 1 ≤ 1000; omega, fun a ha => ⟨a, .int n, rfl, upd_same, fun d hd hda => ⟨rfl, d, [(f1, .int n)], upd_same, by rw [upd_ne hda, upd_same], ?_, ?_⟩⟩⟩
  · rw [upd_ne hda] at hd
    exact hd
  · rw [upd_ne hda] at hd
    have e1 : upd (del (upd (upd (upd H1 a (exo a Cx none)) d (exd d [(f1, .int n)])) a (exo a Cx (some d))) a) d (.xd [(f1, .int n)]) = upd H1 d (.xd [(f1, .int n)]) := by
      funext b
      by_cases hb : b = d
      · subst hb; rw [upd_same, upd_same]
      · rw [upd_ne hb, upd_ne hb]
        by_cases hb2 : b = a
        · subst hb2; rw [del_same, ha]
        · rw [del_ne hb2, upd_ne hb2, upd_ne hb, upd_ne hb2]
    rw [e1]
    have := s.1 ⟨Cx, some [(f1, .int n)]⟩ (some d) (upd F1 d (.xd [(f1, .int n)])) σ (upd H1 d (.xd [(f1, .int n)])) Γ kn ((s.grow g).grow (g.base.lay hd)).2 ⟨_, rfl, upd_same⟩
    rw [hE] at this
    exact this
theorem z_raise2 (hE : Y.E = WE Wt) (h : R Y t1 Γ dInt fun n1 => R Y t2 Γ dInt fun n2 => Y.kx ⟨Cx, some [(f2, .int n2), (f1, .int n1)]⟩ Γ) : Z Y (fun _ σ H => tMkO Cx (spX2 Cx f1 f2) [] (tCons t1 (tCons t2 tNil)) σ H fun cls d H' => Wt cls d σ H') Γ k := fun e F σ H D hM s c => h e F σ H s _ fun v F1 H1 n h2 g r => h2 e F1 σ H1 (s.grow g) _ fun v2 F2 H2 n2 kn g2 r2 => by
  cases (show v = .int n from r)
  cases (show v2 = .int n2 from r2)
  refine ⟨by show 2 ≤ 1000; omega, fun a ha => ⟨a, .int n, .int n2, rfl, upd_same, fun d hd hda => ⟨rfl, d, [(f2, .int n2), (f1, .int n)], ?_, upd_same, ?_, ?_⟩⟩⟩
  · rw [upd_ne (Ne.symm hda), upd_same]
  · rw [upd_ne hda] at hd
    exact hd
  · rw [upd_ne hda] at hd
    have e1 : upd (del (upd (upd (upd (upd H2 a (exo a Cx none)) d (exd d [(f1, .int n)])) a (exo a Cx (some d))) d (exd d [(f2, .int n2), (f1, .int n)])) a) d (.xd [(f2, .int n2), (f1, .int n)]) = upd H2 d (.xd [(f2, .int n2), (f1, .int n)]) := by
      funext b
      by_cases hb : b = d
      · subst hb; rw [upd_same, upd_same]
      · rw [upd_ne hb, upd_ne hb]
        by_cases hb2 : b = a
        · subst hb2; rw [del_same, ha]
        · rw [del_ne hb2, upd_ne hb, upd_ne hb2, upd_ne hb, upd_ne hb2]
    rw [e1]
    have := s.1 ⟨Cx, some [(f2, .int n2), (f1, .int n)]⟩ (some d) (upd F2 d (.xd [(f2, .int n2), (f1, .int n)])) σ (upd H2 d (.xd [(f2, .int n2), (f1, .int n)])) Γ kn (((s.grow g).grow g2).grow (g2.base.lay hd)).2 ⟨_, rfl, upd_same⟩
    rw [hE] at this
    exact this
end
end G

/-! E3: try .. except X as n; isinstance of what was caught; its attributes. -/
namespace G
open PySem PySem.Spec PyProof.Rows L2 PySem.W
/-- the caught exception at a, its dict d -/
@[reducible] def dExn (a : Addr) (d : Option Addr) : Dat Exn where
  rep _ F v x := v = .ref a ∧ x.at F d
  mono := fun {C F F' v x} s ⟨e, h⟩ => ⟨e, by
    cases d with
    | none => exact h
    | some dd => obtain ⟨fs, e1, e2⟩ := h; exact ⟨fs, e1, s _ _ e2⟩⟩
/-- isinstance(e, c), e the exception that the suite holds -/
def rIsX (K : Frag) (a : Addr) (cls : Value) (d : Option Addr) : List V → Hp → VK → Prop := fun xs H Q => ∃ (D : Addr) (c : V) (cv : Value) (b : Bool), cls = .ref D ∧ ExcC K D ∧ xs = [.ref a, c] ∧ (∀ u, RelV c u → u = cv) ∧ kitOne K (.ref D) cv = some b ∧
  (∀ dd, d = some dd → ∃ fs, H dd = some (.xd fs)) ∧ Q (.bl b) H
theorem call_isX {X : Cx} {a : Addr} {cls : Value} {d : Option Addr} {oe : Obj} {pn : List (Addr × Obj)} (hz : Zc cls d oe) (hf : ∃ vs, oe.data = .fields vs) : CallR (X.suite a ((a, oe) :: pn)) (.builtin "isinstance") (rIsX X.K a cls d) := by
  intro pins s σ H xs us Q I r h
  obtain ⟨D, c, cv, b, rfl, C, rfl, hcv, e, hd, q⟩ := h
  cases r with
  | cons rx rr =>
    cases rr with
    | cons rt rr =>
      cases rr
      cases rx
      have ec := hcv _ rt
      subst ec
      obtain ⟨hget, _⟩ := I.pin (a, oe) (List.mem_append.mpr (.inl List.mem_cons_self))
      obtain ⟨vs, hv⟩ := hf
      obtain ⟨od, J⟩ : ∃ od, InstAt s.heap a oe D od := by
        obtain ⟨oc, odt, oda, osl⟩ := oe
        obtain ⟨h1, h2⟩ := hz
        dsimp only at h1 h2 hv
        subst h1 h2 hv
        cases odt with
        | none => exact ⟨none, hget, rfl, rfl, trivial⟩
        | some dd =>
          obtain ⟨fs, hfs⟩ := hd dd rfl
          have ok : ObjOk X.prog X.w H s.heap dd (.xd fs) := I.hok dd _ hfs
          obtain ⟨mA, ⟨o, es, ep, ho, _⟩, _⟩ := ok
          exact ⟨some o, hget, rfl, rfl, ho⟩
      have hcl : (clsIn X.K D).isSome = true := by obtain ⟨cd, hc, _⟩ := any_some C.hd; rw [hc]; rfl
      exact kia_one (kitx_exc hcl C.hg C.hk C.hs C.ha C.hn C.ht C.hm) I.kIn J e (fun z => nomatch z) fun tk => ⟨.bl b, H, I.kept (t' := tk) fun _ _ z => z, rfl, q⟩
section
variable {Y : YC} {Γ : List Cell} {k : Ks} {te : TE} {a Cx : Addr} {d : Option Addr} {x : Exn} {i : Nat}
theorem w_isX {cls : Value} {c : V} {cv : Value} {b : Bool} {kx : Bool → Prop} (hi : Γ[i]? = some (.val (dExn a d) x)) (hc : cls = .ref x.cls) (C : ExcC Y.K x.cls) (hv : ∀ u, RelV c u → u = cv) (hk : kitOne Y.K (.ref x.cls) cv = some b) (h : kx b) :
    W Y (tCB (rIsX Y.K a cls d) (tCons (tVar i) (tCons (tC c) tNil))) Γ dBool kx := fun e F σ H s Q q => by
  obtain ⟨v, e1, e2, r⟩ := s.val hi
  subst e2
  refine ⟨.ref a, e1, x.cls, c, cv, b, hc, C, rfl, hv, hk, fun dd hd => ?_, q _ F H b h s.base rfl⟩
  subst hd
  obtain ⟨fs, _, e3⟩ := r
  exact ⟨fs, s.fh _ _ e3⟩
theorem w_xf {cls : Value} {f : Str} {n : Int} {fs : List (Str × V)} {kx : Int → Prop} (hi : Γ[i]? = some (.val (dExn a d) x)) (hc : cls = .ref x.cls) (hx : x.cls = Cx) (hf : x.fs = some fs) (hl : fs.lookup f = some (.int n)) (h : kx n) :
    W Y (tXf a cls d Cx f (tVar i)) Γ dInt kx := fun e F σ H s Q q => by
  obtain ⟨v, e1, e2, r⟩ := s.val hi
  subst e2
  refine ⟨.ref a, e1, rfl, by rw [hc, hx], ?_⟩
  cases d with
  | none => rw [show x.fs = none from r] at hf; cases hf
  | some dd =>
    obtain ⟨fs', e3, e4⟩ := r
    rw [hf] at e3
    cases e3
    exact ⟨dd, fs, .int n, rfl, s.fh _ _ e4, hl, q _ F H n h s.base rfl⟩
theorem State.noAt {e : En} {F : Hp} {σ : L2.St} {H : Hp} (s : State Y e F σ H Γ) (i : Nat) : State Y e F (σ.set i none) H (Γ.set i .no) := by
  cases q : Γ[i]? with
  | some c => exact s.forget q
  | none =>
    have h1 : Γ.length ≤ i := List.getElem?_eq_none_iff.mp q
    have h2 : σ.length ≤ i := by rw [s.len]; exact h1
    rw [List.set_eq_of_length_le h1, List.set_eq_of_length_le h2]
    exact s
theorem Cont.at {e : En} {D : Ends} {E : L2.St → XK} {kb : Exn → List Cell → Prop} (hx : XOk Y e) (c : Cont Y e k D) : Cont ⟨Y.g, E, kb⟩ e k D :=
  ⟨fun F σ H Γ q s => c.nx F σ H Γ q ⟨hx, s.2⟩, c.rt, fun F σ H Γ q s => c.bk F σ H Γ q ⟨hx, s.2⟩, fun F σ H Γ q s => c.ct F σ H Γ q ⟨hx, s.2⟩⟩
/-- try: body; except c as the name at i: suite -/
theorem z_tryAs {tb : WX → TS} {ts : Addr → Value → Option Addr → TS} {c : Value} {Wout : WX} (kb : Exn → List Cell → Prop) (hE : Y.E = WE Wout) (hb : ∀ W : WX, Z ⟨Y.g, WE W, kb⟩ (tb W) Γ k)
    (hx : ∀ x Γ', kb x Γ' → ∃ b, exmOne Y.K (.ref x.cls) c = some b ∧
      (b = true → (∃ c0, Γ'[i]? = some c0) ∧ ∀ a d, Z Y (ts a (.ref x.cls) d) (Γ'.set i (.val (dExn a d) x)) { nx := fun Γ2 => k.nx (Γ2.set i .no), rt := k.rt, bk := fun Γ2 => k.bk (Γ2.set i .no), ct := fun Γ2 => k.ct (Γ2.set i .no) }) ∧ (b = false → Y.kx x Γ')) :
    Z Y (fun D σ H => tb (wAs Y.K c i ts Wout D) D σ H) Γ k := fun e F σ H D hM s ct => by
  refine hb _ e F σ H D hM ⟨fun x d F' σ' H' Γ' kbx st hd => ?_, s.2⟩ (ct.at s.1)
  obtain ⟨b, hm, h1, h2⟩ := hx x Γ' kbx
  refine ⟨b, hm, fun hb1 a ha => ?_, fun hb0 => ?_⟩
  · obtain ⟨⟨c0, hi⟩, hz⟩ := h1 hb1
    have st1 : State Y e F' σ' H' Γ' := ⟨s.1, st⟩
    refine hz a d e F' _ H' _ hM (st1.set (c' := .val (dExn a d) x) (L' := []) hi st1.base ⟨rfl, _, rfl, rfl, hd⟩) ⟨fun F3 σ3 H3 Γ3 q s3 => ct.nx F3 _ H3 _ q (s3.noAt i), ct.rt, fun F3 σ3 H3 Γ3 q s3 => ct.bk F3 _ H3 _ q (s3.noAt i), fun F3 σ3 H3 Γ3 q s3 => ct.ct F3 _ H3 _ q (s3.noAt i)⟩
  · have := s.1 x d F' σ' H' Γ' (h2 hb0) st hd
    rw [hE] at this
    exact this
end
end G

/-! E4: instances of own classes. -/
namespace G
open PySem PySem.Spec PyProof.Rows L2 PySem.W
/-! calls that may raise, within a try -/
section
variable {X : Cx} {CXt : CXT} {k : Nat} {f C : Addr} {fd : FuncData} {ps : List Str} {sp : Sp} {E : L2.St → XK} {x m : Str} {p pos apos : Pos} {e o : Expr} {es : List Expr} {ta : TE} {t : TA}
def tMakeS (C : Addr) (sp : Sp) (E : L2.St → XK) (t : TA) : TE := fun σ H Q => t σ H fun vs H1 => ∀ x dx, H1 x = none → H1 dx = none → dx ≠ x → sp (.ref x :: vs) (upd (upd H1 dx (.own x)) x (.ins C dx [])) (fun v H2 => v = .non ∧ Q (.ref x) H2) (E σ)
theorem run_makeS {pins : List (Addr × Obj)} {σ : L2.St} {H : Hp} {s : Shared} {Q : VK} {us : List Value} {vs : List V} {E : XK} (M : Mk X.K C f) (F : FnOk X.prog X.w X.K X.mg X.base CXt k f fd ps sp) (hr : Room (k + 1) X.A) (hb : Binds X.K fd ps [])
    (hx : PassesAt CXt X σ E) (I : Inv X pins σ H s) (r : Vals vs us)
    (h : ∀ x dx, H x = none → H dx = none → dx ≠ x → sp (.ref x :: vs) (upd (upd H dx (.own x)) x (.ins C dx [])) (fun v H2 => v = .non ∧ Q (.ref x) H2) E) :
    wpAny (model X.prog X.w) X.A (call (.ref C) us) (EP X pins σ Q) X.xe s := by
  have hq := h (s.heap.objs.size + 1) s.heap.objs.size (I.hok.fresh (Nat.le_succ _)) (I.hok.fresh (Nat.le_refl _)) (Nat.ne_of_lt (Nat.lt_succ_self _))
  have I2 := Inv.made (C := C) I
  have r2 : Vals (V.ref (s.heap.objs.size + 1) :: vs) (Value.ref (s.heap.objs.size + 1) :: us) := .cons rfl r
  have hl : (Value.ref (s.heap.objs.size + 1) :: us).length = ps.length := by
    have e := r2.length
    rw [F.len _ _ _ _ hq] at e
    exact e.symm
  have hb2 := hb _ (Value.ref (s.heap.objs.size + 1) :: us) I2.kIn (by rw [List.append_nil]; exact hl)
  rw [List.append_nil] at hb2
  refine wpAny_call (make_map (f := f) I.kIn M.makes M.init (beq_iff_eq.mp M.fn) (codeAny_mono (F.run _ X.stack _ _ ⟨Value.ref (s.heap.objs.size + 1) :: us, []⟩ (Value.ref (s.heap.objs.size + 1) :: us) _ _ E (hr.make C us [])
    (I2.env0.make C us []) hb2 r2 hq) fun r s' hq' => ?_))
  cases r with
  | error e => exact hx pins _ _ e s' I2 hq'
  | ok fl =>
    cases fl with
    | ret u =>
      obtain ⟨v, H', J, rv, ev, q⟩ := I2.after hq'
      subst ev
      exact ⟨rv, .ref (s.heap.objs.size + 1), H', J, rfl, q⟩
    | next => exact False.elim hq'
    | brk => exact False.elim hq'
    | cont => exact False.elim hq'
theorem pe_makeS (M : Mk X.K C f) (F : FnOk X.prog X.w X.K X.mg X.base CXt k f fd ps sp) (hr : Room (k + 1) X.A) (hg : Gl X x) (hm : X.mg x = some (.ref C)) (hb : Binds X.K fd ps []) (hx : ∀ σ, PassesAt CXt X σ (E σ))
    (ha : PA X (e :: es) t) (hdb : (x == ("__debug__" : Str)) = false := by decide) (he : starEach (e :: es) X.env = (false, eval e X.env) :: starEach es X.env := by rfl) (hpl : (backTo pos (starEach es X.env)).any (·.1) = false := by rfl) :
    PE X (.Call (.Name x p) (e :: es) [] pos) (tMakeS C sp E t) := by
  refine ⟨fun pins s σ H Q I h => ?_⟩
  refine wpAny_Call_Name_kw (ld_glob I hg hm ?_ hdb)
  refine PySem.W.callWith_K (h₀ := X.base) I.ok.mod.kin M.kp (thn (ha.run pos pins s σ H _ I h) fun us s1 ⟨vs, H1, I1, r, q⟩ => ⟨I1.kIn, ?_⟩) he hpl
  exact run_makeS M F hr hb (hx σ) I1 r q
end
/-! data -/
structure Ob1 (α : Type) where
  a : α
  deriving DecidableEq
structure Ob2 (α β : Type) where
  a : α
  b : β
  deriving DecidableEq
section
variable {α β : Type} [d1 : Dat α] [d2 : Dat β] (C0 : Addr) (f1 f2 : Str)
@[reducible] def dOb1 : Dat (Ob1 α) := ⟨fun C F v x => ∃ p dx v1, v = .ref p ∧ F p = some (.ins C0 dx [(f1, v1)]) ∧ d1.rep C F v1 x.a, fun s ⟨p, dx, v1, e, h, r1⟩ => ⟨p, dx, v1, e, s _ _ h, d1.mono s r1⟩⟩
@[reducible] def dOb2 : Dat (Ob2 α β) := ⟨fun C F v x => ∃ p dx v1 v2, v = .ref p ∧ F p = some (.ins C0 dx [(f1, v1), (f2, v2)]) ∧ d1.rep C F v1 x.a ∧ d2.rep C F v2 x.b,
  fun s ⟨p, dx, v1, v2, e, h, r1, r2⟩ => ⟨p, dx, v1, v2, e, s _ _ h, d1.mono s r1, d2.mono s r2⟩⟩
@[reducible] def oOb1 : @OD (Ob1 α) (dOb1 C0 f1) := @OD.mk (Ob1 α) (dOb1 C0 f1)
  (fun C F v x L => ∃ p dx v1, v = .ref p ∧ L = [(p, .ins C0 dx [(f1, v1)])] ∧ d1.rep C F v1 x.a)
  (fun s ⟨p, dx, v1, e, h, r1⟩ => ⟨p, dx, v1, e, h, d1.mono s r1⟩)
  (fun ⟨p, dx, v1, e, h, r1⟩ s k => ⟨p, dx, v1, e, k (p, .ins C0 dx [(f1, v1)]) (by rw [h]; exact List.mem_cons_self), d1.mono s r1⟩)
@[reducible] def oOb2 : @OD (Ob2 α β) (dOb2 C0 f1 f2) := @OD.mk (Ob2 α β) (dOb2 C0 f1 f2)
  (fun C F v x L => ∃ p dx v1 v2, v = .ref p ∧ L = [(p, .ins C0 dx [(f1, v1), (f2, v2)])] ∧ d1.rep C F v1 x.a ∧ d2.rep C F v2 x.b)
  (fun s ⟨p, dx, v1, v2, e, h, r1, r2⟩ => ⟨p, dx, v1, v2, e, h, d1.mono s r1, d2.mono s r2⟩)
  (fun ⟨p, dx, v1, v2, e, h, r1, r2⟩ s k => ⟨p, dx, v1, v2, e, k (p, .ins C0 dx [(f1, v1), (f2, v2)]) (by rw [h]; exact List.mem_cons_self), d1.mono s r1, d2.mono s r2⟩)
end
/-- an instance without attributes yet -/
structure Ob0 where
  u : Unit
@[reducible] def dOb0 (C0 : Addr) : Dat Ob0 := ⟨fun _ F v _ => ∃ p dx, v = .ref p ∧ F p = some (.ins C0 dx []), fun s ⟨p, dx, e, h⟩ => ⟨p, dx, e, s _ _ h⟩⟩
@[reducible] def oOb0 (C0 : Addr) : @OD Ob0 (dOb0 C0) := @OD.mk Ob0 (dOb0 C0)
  (fun _ _ v _ L => ∃ p dx, v = .ref p ∧ L = [(p, .ins C0 dx [])])
  (fun _ h => h)
  (fun ⟨p, dx, e, h⟩ _ k => ⟨p, dx, e, k (p, .ins C0 dx []) (by rw [h]; exact List.mem_cons_self)⟩)
/-- data that are instances of the class at C0 with these attributes -/
structure IsI {α : Type} (d : Dat α) (C0 : Addr) (ns : List Str) : Prop where
  ins : ∀ {C : GCtx} {F : Hp} {v : V} {x : α}, d.rep C F v x → ∃ p dx fs, v = .ref p ∧ F p = some (.ins C0 dx fs) ∧ ∀ f, f ∉ ns → fs.lookup f = none
/-- its attribute f -/
structure IsF {α β : Type} (d : Dat α) (C0 : Addr) (f : Str) (d2 : Dat β) (g : α → β) : Prop where
  fld : ∀ {C : GCtx} {F : Hp} {v : V} {x : α}, d.rep C F v x → ∃ p dx fs v2, v = .ref p ∧ F p = some (.ins C0 dx fs) ∧ fs.lookup f = some v2 ∧ d2.rep C F v2 (g x)
theorem isI0 {C0 : Addr} : IsI (dOb0 C0) C0 [] := ⟨fun ⟨p, dx, e, h⟩ => ⟨p, dx, [], e, h, fun _ _ => rfl⟩⟩
section
variable {α β : Type} [d1 : Dat α] [d2 : Dat β] {C0 : Addr} {f1 f2 : Str}
theorem isI2 : IsI (dOb2 (α := α) (β := β) C0 f1 f2) C0 [f1, f2] := ⟨fun ⟨p, dx, v1, v2, e, h, _⟩ => ⟨p, dx, _, e, h, fun f hf => by
  rw [List.lookup_cons, beq_eq_false_iff_ne.mpr (fun z => hf (by rw [z]; simp)), List.lookup_cons, beq_eq_false_iff_ne.mpr (fun z => hf (by rw [z]; simp))]; rfl⟩⟩
theorem isF2a : IsF (dOb2 (α := α) (β := β) C0 f1 f2) C0 f1 d1 Ob2.a := ⟨fun ⟨p, dx, v1, v2, e, h, r, _⟩ => ⟨p, dx, _, v1, e, h, by rw [List.lookup_cons, beq_self_eq_true], r⟩⟩
theorem isF2b (hn : (f2 == f1) = false) : IsF (dOb2 (α := α) (β := β) C0 f1 f2) C0 f2 d2 Ob2.b := ⟨fun ⟨p, dx, v1, v2, e, h, _, r⟩ => ⟨p, dx, _, v2, e, h, by rw [List.lookup_cons, hn, List.lookup_cons, beq_self_eq_true], r⟩⟩
end
section
variable {Y : YC} {Γ : List Cell} {k : Ks} {te : TE} {tl : TA} {α β : Type} {d : Dat α} {d2 : Dat β} {C0 : Addr} {f : Str} {ns : List Str}
theorem w_fld {g : α → β} {kx : β → Prop} (hf : IsF d C0 f d2 g) (c : Cls Y.K C0) (n : NoAttr Y.K C0 f) (h : W Y te Γ d fun x => kx (g x)) : W Y (tFld Y.K te f) Γ d2 kx := fun e F σ H s Q q => h e F σ H s _ fun v F' H' x kx' gr r => by
  obtain ⟨p, dx, fs, v2, e1, e2, e3, r2⟩ := hf.fld r
  exact ⟨p, C0, dx, fs, v2, e1, gr.fh _ _ e2, c, n, e3, q v2 F' H' _ kx' gr r2⟩
theorem w_con {kx : Int → Prop} {n : Int} {u : Value} (hf : IsI d C0 ns) (c : Cls Y.K C0) (k0 : Con Y.K C0 f (.int n) u) (hn : f ∉ ns) (h : R Y te Γ d fun _ => kx n) : W Y (tCon Y.K te f) Γ dInt kx := fun e F σ H s Q q => h e F σ H s _ fun v F' H' x kx' gr r => by
  obtain ⟨p, dx, fs, e1, e2, e3⟩ := hf.ins r
  exact ⟨p, C0, dx, fs, .int n, u, e1, e2, c, k0, e3 f hn, q _ F' H' n kx' gr rfl⟩
/-! stores within __init__ -/
theorem z_fld1 {d1 : Dat β} {i : Nat} {pin : Option V} {x : Ob0} (hi : Γ[i]? = some (.own (dOb0 C0) (oOb0 C0) pin x)) (c : Cls Y.K C0) (n : NoAttr Y.K C0 f) (h : W Y te Γ d1 fun y => k.nx (Γ.set i (.own (dOb1 C0 f) (oOb1 C0 f) pin ⟨y⟩))) :
    Z Y (sFld Y.K (tVar i) te f) Γ k := fun e F σ H D hM s ct => h e F σ H s _ fun v F' H' y ky g r => by
  have st := s.grow g
  obtain ⟨L, kw, sl⟩ := st.2
  obtain ⟨o, L1, Li, L2, e1, e2, ⟨v0, rfl, hp, p, dx, rfl, rfl⟩, f2⟩ := sl.get hi
  subst e2
  have hH : H' p = some (.ins C0 dx []) := (kw.ow (p, .ins C0 dx []) (by simp)).2.1
  refine ⟨.ref p, e1, p, C0, dx, [], rfl, hH, c, n, by decide, ct.nx F' σ _ _ ky ⟨s.1, L1 ++ [(p, .ins C0 dx [(f, v)])] ++ L2, ?_, ?_⟩⟩
  · exact (kw.front.put (o' := .ins C0 dx [(f, v)]) (fun _ z => by cases z)).back (Li := [(p, .ins C0 dx [(f, v)])])
  · have q := f2 F' (some (.ref p)) (.own (dOb1 C0 f) (oOb1 C0 f) pin ⟨y⟩) [(p, .ins C0 dx [(f, v)])] (Same.refl _) ⟨.ref p, rfl, hp, p, dx, v, rfl, rfl, r⟩
    have z : σ.set i (some (.ref p)) = σ := by
      apply List.ext_getElem?
      intro j
      by_cases hj : i = j
      · subst hj
        obtain ⟨hlt, hv⟩ := List.getElem?_eq_some_iff.mp e1
        rw [List.getElem?_set_self hlt, e1]
      · rw [List.getElem?_set_ne hj]
    rw [z] at q
    exact q
theorem z_fld2 {α2 : Type} {d1 : Dat β} {dn : Dat α2} {i : Nat} {pin : Option V} {f1 : Str} {x : Ob1 β} (hi : Γ[i]? = some (.own (dOb1 C0 f1) (oOb1 C0 f1) pin x)) (hne : (f1 == f) = false) (c : Cls Y.K C0) (n : NoAttr Y.K C0 f) (h : W Y te Γ dn fun y => k.nx (Γ.set i (.own (dOb2 C0 f1 f) (oOb2 C0 f1 f) pin ⟨x.a, y⟩))) :
    Z Y (sFld Y.K (tVar i) te f) Γ k := fun e F σ H D hM s ct => h e F σ H s _ fun v F' H' y ky g r => by
  have st := s.grow g
  obtain ⟨L, kw, sl⟩ := st.2
  obtain ⟨o, L1, Li, L2, e1, e2, ⟨v0, rfl, hp, p, dx, v1, rfl, rfl, r1⟩, f2⟩ := sl.get hi
  subst e2
  have hH : H' p = some (.ins C0 dx [(f1, v1)]) := (kw.ow (p, .ins C0 dx [(f1, v1)]) (by simp)).2.1
  have hp2 : putF f v [(f1, v1)] = [(f1, v1), (f, v)] := by
    unfold putF
    rw [if_neg (beq_eq_false_iff_ne.mp hne)]
    rfl
  refine ⟨.ref p, e1, p, C0, dx, [(f1, v1)], rfl, hH, c, n, by show 1 < 1000; omega, ?_⟩
  rw [hp2]
  refine ct.nx F' σ _ _ ky ⟨s.1, L1 ++ [(p, .ins C0 dx [(f1, v1), (f, v)])] ++ L2, ?_, ?_⟩
  · exact (kw.front.put (o' := .ins C0 dx [(f1, v1), (f, v)]) (fun _ z => by cases z)).back (Li := [(p, .ins C0 dx [(f1, v1), (f, v)])])
  · have q := f2 F' (some (.ref p)) (.own (dOb2 C0 f1 f) (oOb2 C0 f1 f) pin ⟨x.a, y⟩) [(p, .ins C0 dx [(f1, v1), (f, v)])] (Same.refl _) ⟨.ref p, rfl, hp, p, dx, v1, v, rfl, rfl, r1, r⟩
    have z : σ.set i (some (.ref p)) = σ := by
      apply List.ext_getElem?
      intro j
      by_cases hj : i = j
      · subst hj
        obtain ⟨hlt, hv⟩ := List.getElem?_eq_some_iff.mp e1
        rw [List.getElem?_set_self hlt, e1]
      · rw [List.getElem?_set_ne hj]
    rw [z] at q
    exact q
end
end G

/-! E5: making an instance: __init__ and the call of the class. -/
namespace G
open PySem PySem.Spec PyProof.Rows L2 PySem.W
section
variable {C : GCtx} {Y : YC} {Γ : List Cell} {α : Type} {d : Dat α}
/-- __init__ of the class at C0 over the data Γ: it leaves an instance as post says, or lets an exception out -/
def FnI (C : GCtx) {α : Type} {d : Dat α} (od : OD α) (C0 : Addr) (Γ : List Cell) (post : α → Prop) (xp : Exn → Prop) (vs : List V) (H : Hp) (Q : VK) (E : XK) : Prop :=
  ∃ p dx ws F H1, vs = .ref p :: ws ∧ H1 p = none ∧ H1 dx = none ∧ dx ≠ p ∧ H = upd (upd H1 dx (.own p)) p (.ins C0 dx []) ∧ Gr F H1 F H1 ∧ Slots C F (ws.map some) Γ [] ∧
    (∀ x F' H' L, post x → Wk ⟨F, H1, []⟩ F' L H' → od.orep C F' (.ref p) x L → Q .non H') ∧
    ∀ x d F' H', xp x → Wk ⟨F, H1, []⟩ F' [] H' → x.at F' d → E (.ref x.cls) d H'
theorem FnI.len {od : @OD α d} {C0 : Addr} {post : α → Prop} {xp : Exn → Prop} {vs : List V} {H : Hp} {Q : VK} {E : XK} (h : FnI C od C0 Γ post xp vs H Q E) : vs.length = Γ.length + 1 := by
  obtain ⟨p, dx, ws, F, H1, e, _, _, _, _, _, sl, _⟩ := h
  rw [e, List.length_cons, ← sl.len, List.length_map]
theorem FnI.mono {od : @OD α d} {C0 : Addr} {post post' : α → Prop} {xp xp' : Exn → Prop} {vs : List V} {H : Hp} {Q : VK} {E : XK} (h : FnI C od C0 Γ post xp vs H Q E) (m : ∀ x, post' x → post x) (mx : ∀ x, xp' x → xp x) : FnI C od C0 Γ post' xp' vs H Q E := by
  obtain ⟨p, dx, ws, F, H1, e, a1, a2, a3, a4, a5, sl, q, qx⟩ := h
  exact ⟨p, dx, ws, F, H1, e, a1, a2, a3, a4, a5, sl, fun x F' H' L k => q x F' H' L (m x k), fun x d F' H' k => qx x d F' H' (mx x k)⟩
def SpI (C : GCtx) (sp : Sp) {α : Type} {d : Dat α} (od : OD α) (C0 : Addr) (cs : List Cell) (post : α → Prop) (xp : Exn → Prop) : Prop := ∀ vs H Q E, FnI C od C0 cs post xp vs H Q E → sp vs H Q E
/-- C(..) -/
theorem o_makeS {od : @OD α d} {C0 : Addr} {sp : Sp} {E : L2.St → XK} {tl : TA} {kx : α → Prop} (hE : E = Y.E) (h : WA Y tl Γ fun cs => SpI Y.g sp od C0 cs kx fun x => Y.kx x Γ) : O Y (tMakeS C0 sp E tl) Γ od kx := fun e F σ H s Q q => h e F σ H s _ fun vs F1 H1 cs hc g1 sl => fun p dx hp hdx hne => by
  subst hE
  refine hc _ _ _ _ ⟨p, dx, vs, F1, H1, rfl, hp, hdx, hne, rfl, g1.base, sl, fun x F' H' L kx' g2 r => ⟨rfl, ?_⟩, fun x d F' H' kx' g2 hd => ?_⟩
  · exact q _ F' H' L x kx' (by simpa using g1.trans g2) r
  · exact s.1 x d F' σ H' Γ kx' ((s.grow g1).grow g2).2 hd
/-- THE BODY of an __init__ -/
theorem FnI.body {od : @OD α d} {C0 : Addr} {N : List Str} {post : α → Prop} {xp : Exn → Prop} {vs : List V} {H : Hp} {Q : VK} {E : XK} {t : TS} (h : FnI C od C0 Γ post xp vs H Q E)
    (hz : ∀ p, Z ⟨C, fun _ => E, fun x _ => xp x⟩ t (.own (dOb0 C0) (oOb0 C0) (some (.ref p)) ⟨()⟩ :: (Γ ++ List.replicate (N.length - (Γ.length + 1)) .no)) { nx := fun Γ' => ∃ x, Γ'[0]? = some (.own d od (some (.ref p)) x) ∧ post x, rt := fun _ _ => False, bk := fun _ => False, ct := fun _ => False }) : t { nx := fun _ H' => Q .non H', rt := Q } (L2.start N vs) H := by
  have hl := h.len
  obtain ⟨p, dx, ws, F, H1, e, hp, hdx, hne, eH, g, sl, q, qx⟩ := h
  subst e eH
  have hl2 : ws.length = Γ.length := by simpa using hl
  have k0 : Wk ⟨F, H1, []⟩ (upd F dx (.own p)) [] (upd H1 dx (.own p)) := Wk.lay g hdx
  have k1 : Wk ⟨F, H1, []⟩ (upd F dx (.own p)) [(p, .ins C0 dx [])] (upd (upd H1 dx (.own p)) p (.ins C0 dx [])) := k0.own (by rw [upd_ne (Ne.symm hne)]; exact hp) (fun _ z => by cases z)
  have st : State ⟨C, fun _ => E, fun x _ => xp x⟩ ⟨F, H1, []⟩ (upd F dx (.own p)) (L2.start N (.ref p :: ws)) (upd (upd H1 dx (.own p)) p (.ins C0 dx [])) (.own (dOb0 C0) (oOb0 C0) (some (.ref p)) ⟨()⟩ :: (Γ ++ List.replicate (N.length - (Γ.length + 1)) .no)) := by
    refine ⟨fun x d F' σ' H' Γ' k ⟨L, kw, _⟩ hd => qx x d F' H' k (kw.sub (fun _ z => nomatch z) List.nodup_nil) hd, [(p, .ins C0 dx [])], k1, ?_⟩
    unfold L2.start
    rw [List.length_cons, hl2]
    exact .cons (L := [(p, .ins C0 dx [])]) (L' := []) ⟨.ref p, rfl, fun u z => by cases z; rfl, p, dx, rfl, rfl⟩ (slots_app (sl.mono k1.ff) (slots_pad _))
  refine hz p ⟨F, H1, []⟩ _ (L2.start N (.ref p :: ws)) _ _ rfl st ⟨fun F' σ' H' Γ' hn s' => ?_, fun F' σ' H' Γ' v c L L' z => z.elim, fun _ _ _ _ z => z.elim, fun _ _ _ _ z => z.elim⟩
  obtain ⟨x, hi, px⟩ := hn
  obtain ⟨_, L, kw, sl'⟩ := s'
  obtain ⟨o, L1, Li, L2, e1, e2, ⟨v, rfl, hpin, r⟩, _⟩ := sl'.get hi
  cases hpin _ rfl
  subst e2
  refine q x F' H' Li px (kw.sub (fun p hp => by simp [hp]) ?_) r
  have n1 := kw.front.nd
  rw [List.map_append] at n1
  exact (List.nodup_append.mp n1).1
end
end G

/-! E6: methods, static methods, x in o by an own __contains__. -/
namespace G
open PySem PySem.Spec PyProof.Rows L2 PySem.W
abbrev EF : XK := fun _ _ _ => False
theorem passF {X : Cx} {P : Program} {w : World} : Passes (L2.CX P w) X EF := fun _ _ _ _ _ _ _ c => by
  obtain ⟨_, _, _, _, _, _, _, _, _, _, _, _, h⟩ := c
  exact h.elim
theorem passFS {X : Cx} {P : Program} {w : World} (σ : L2.St) : PassesAt (L2.CX P w) X σ EF := fun _ _ _ _ _ _ c => by
  obtain ⟨_, _, _, _, _, _, _, _, _, _, _, _, h⟩ := c
  exact h.elim
section
variable {X : Cx} {CXt : CXT} {k : Nat} {f C g p : Addr} {mc : Value} {fd : FuncData} {ps : List Str} {sp : Sp} {E : L2.St → XK} {x m : Str} {apos pos : Pos} {e o : Expr} {es : List Expr} {ta : TE} {t : TA} {pl : Sem Bool}
/-- o.m(..) of an instance of the class at C; it may raise -/
def tMethE (C : Addr) (m : Str) (sp : Sp) (E : L2.St → XK) (ta : TE) (t : TA) : TE := fun σ H Q => ta σ H fun x H1 => ∃ a dx fs, x = .ref a ∧ H1 a = some (.ins C dx fs) ∧ fs.lookup m = none ∧ t σ H1 fun vs H2 => sp (x :: vs) H2 Q (E σ)
theorem pe_methE (he : PE X o ta) (c : Cls X.K C) (hm : Meth X.K C m f) (F : FnOk X.prog X.w X.K X.mg X.base CXt k f fd ps sp) (hr : Room k X.A) (hb : Binds X.K fd ps []) (hx : ∀ σ, PassesAt CXt X σ (E σ)) (ha : PA X (e :: es) t)
    (hst : starEach (e :: es) X.env = (false, eval e X.env) :: starEach es X.env := by rfl) (hpl : (backTo pos (starEach es X.env)).any (·.1) = false := by rfl)
    (ht : eval (.Call (.Attribute o m apos) (e :: es) [] pos) X.env = (do
      let ov ← eval o X.env
      standAt apos.atName
      let (f, first) ← holding [ov] (getMethod ov m pl)
      callWith pos f first (backTo pos (starEach (e :: es) X.env)) (backToKw pos (keywordEach [] X.env))) := by rfl) :
    PE X (.Call (.Attribute o m apos) (e :: es) [] pos) (tMethE C m sp E ta t) := by
  refine ⟨fun pins s σ H Q I h => ?_⟩
  refine PySem.W.methodCall_KW (pl := pl) (thn (he.run pins s σ H _ I h) fun u s1 ⟨x, H1, I1, rx, a, dx, fs, ex, ea, l, q⟩ => ?_) ht
  subst ex
  obtain rfl : u = Value.ref a := rx
  refine getmeth_ok I1 ea c hm l ?_
  refine PySem.W.callWith_K (first := [.ref a]) (h₀ := X.base) I.ok.mod.kin hm.kp (thn (ha.run pos pins s1 σ H1 _ I1 q) fun us s2 ⟨vs, H2, I2, r, q2⟩ => ⟨I2.kIn, ?_⟩) hst hpl
  exact run_fnS (us := .ref a :: us) (vs := .ref a :: vs) F hr hb (hx σ) I2 (.cons rfl r) q2
/-- x in o by the class's own __contains__ (a def that raises nothing) -/
def rInO (C : Addr) (sp : Sp) (b0 : Bool) : R2 := fun v x H Q => ∃ a dx fs, x = .ref a ∧ H a = some (.ins C dx fs) ∧ sp [x, v] H (fun r H' => ∃ b, r = .bl b ∧ Q (.bl (if b0 then !b else b)) H') EF
theorem inst_of {pins : List (Addr × Obj)} {σ : L2.St} {H : Hp} {s : Shared} {a dx : Addr} {fs : List (Str × V)} (I : Inv X pins σ H s) (e : H a = some (.ins C dx fs)) : ∃ ox od, InstAt s.heap a ox C od := by
  obtain ⟨mA, O, _⟩ := ins_get I.hok e
  obtain ⟨od, J, _⟩ := O.look
  exact ⟨_, _, J⟩
theorem op_niO (c : Meth X.K C "__contains__" f) (F : FnOk X.prog X.w X.K X.mg X.base CXt k f fd ps sp) (hr : Room k X.A) (hb : Binds X.K fd ps []) (hx : ∀ σ, PassesAt CXt X σ EF) : OpR X (compareOp .NotIn) (rInO C sp true) := by
  intro pins s σ H x y v u Q I rx ry ⟨a, dx, fs, ey, ea, q⟩
  subst ey
  obtain rfl : u = Value.ref a := ry
  obtain ⟨ox, od, J⟩ := inst_of I ea
  obtain ⟨mm, fr⟩ := I.fr
  refine notIn_K fr I.ok.mod.kin J c.at_ c.fn (thn (run_fnS (E := fun _ => EF) (us := [.ref a, v]) (vs := [.ref a, x]) F hr hb (hx σ) I (.cons rfl (.cons rx .nil)) q) fun r s1 ⟨z, H1, I1, rz, b, ez, q1⟩ => ?_)
  subst ez
  obtain rfl : r = Value.bool b := rz
  exact wpAny_truthy_bool ⟨.bl (!b), H1, I1, rfl, q1⟩
end
/-! readings -/
section
variable {Y : YC} {Γ : List Cell} {ta tb : TE} {tl : TA} {α β : Type} {d : Dat α} {d2 : Dat β} {C0 : Addr} {m : Str} {ns : List Str} {sp : Sp} {E : L2.St → XK}
theorem meth_of (hI : IsI d C0 ns) (hm : m ∉ ns) {C : GCtx} {F : Hp} {v : V} {x : α} (r : d.rep C F v x) : ∃ a dx fs, v = .ref a ∧ F a = some (.ins C0 dx fs) ∧ fs.lookup m = none := by
  obtain ⟨p, dx, fs, e1, e2, e3⟩ := hI.ins r
  exact ⟨p, dx, fs, e1, e2, e3 m hm⟩
theorem w_methE {kx : β → Prop} (hE : E = Y.E) (hI : IsI d C0 ns) (hm : m ∉ ns) (h : W Y ta Γ d fun x => WA Y tl Γ fun cs => SpX Y.g sp (.val d x :: cs) (fun c => ∃ r, c = .val d2 r ∧ kx r) fun x => Y.kx x Γ) : W Y (tMethE C0 m sp E ta tl) Γ d2 kx := fun e F σ H s Q q => h e F σ H s _ fun v F1 H1 x h1 g1 r1 => by
  subst hE
  obtain ⟨a, dx, fs, e1, e2, e3⟩ := meth_of hI hm r1
  refine ⟨a, dx, fs, e1, g1.fh _ _ e2, e3, h1 e F1 σ H1 (s.grow g1) _ fun vs F2 H2 cs hc g2 sl => ?_⟩
  refine hc (v :: vs) H2 Q _ ⟨F2, g2.base, .cons (L := []) ⟨rfl, v, rfl, d.mono g2.ff r1⟩ sl, fun v' F' H' c L ⟨r, ec, kr⟩ g3 rc => ?_, fun x' d' F' H' kx' g3 hd => ?_⟩
  · subst ec
    obtain ⟨e4, v2, e5, rv⟩ := rc
    subst e4
    cases (Option.some.inj e5)
    exact q v' F' H' r kr ((g1.trans0 g2).trans0 g3) rv
  · exact s.1 x' d' F' σ H' Γ kx' (((s.grow g1).grow g2).grow g3).2 hd
theorem o_methE {od : @OD β d2} {kx : β → Prop} (hE : E = Y.E) (hI : IsI d C0 ns) (hm : m ∉ ns) (h : W Y ta Γ d fun x => WA Y tl Γ fun cs => SpX Y.g sp (.val d x :: cs) (fun c => ∃ r, c = .own d2 od none r ∧ kx r) fun x => Y.kx x Γ) : O Y (tMethE C0 m sp E ta tl) Γ od kx := fun e F σ H s Q q => h e F σ H s _ fun v F1 H1 x h1 g1 r1 => by
  subst hE
  obtain ⟨a, dx, fs, e1, e2, e3⟩ := meth_of hI hm r1
  refine ⟨a, dx, fs, e1, g1.fh _ _ e2, e3, h1 e F1 σ H1 (s.grow g1) _ fun vs F2 H2 cs hc g2 sl => ?_⟩
  refine hc (v :: vs) H2 Q _ ⟨F2, g2.base, .cons (L := []) ⟨rfl, v, rfl, d.mono g2.ff r1⟩ sl, fun v' F' H' c L ⟨r, ec, kr⟩ g3 rc => ?_, fun x' d' F' H' kx' g3 hd => ?_⟩
  · subst ec
    obtain ⟨v2, e5, _, rv⟩ := rc
    cases (Option.some.inj e5)
    exact q v' F' H' L r kr (by simpa using (g1.trans0 g2).trans g3) rv
  · exact s.1 x' d' F' σ H' Γ kx' (((s.grow g1).grow g2).grow g3).2 hd
theorem w_inO {b0 : Bool} {kb : Bool → Prop} (hI : IsI d2 C0 ns) (h : W Y ta Γ d fun x => W Y tb Γ d2 fun y => SpX Y.g sp [.val d2 y, .val d x] (fun c => ∃ b, c = .val dBool b ∧ kb (if b0 then !b else b)) fun _ => False) : W Y (tOp (rInO C0 sp b0) ta tb) Γ dBool kb := fun e F σ H s Q q => h e F σ H s _ fun v1 F1 H1 x h1 g1 r1 => h1 e F1 σ H1 (s.grow g1) _ fun v2 F2 H2 y hc g2 r2 => by
  obtain ⟨p, dx, fs, e1, e2, _⟩ := hI.ins r2
  refine ⟨p, dx, fs, e1, g2.fh _ _ e2, ?_⟩
  refine hc [v2, v1] H2 _ _ ⟨F2, g2.base, .cons (L := []) ⟨rfl, v2, rfl, r2⟩ (.cons (L := []) ⟨rfl, v1, rfl, d.mono g2.ff r1⟩ .nil), fun v' F' H' c L ⟨b, ec, kr⟩ g3 rc => ?_, fun _ _ _ _ z => z.elim⟩
  subst ec
  obtain ⟨e4, v3, e5, rv⟩ := rc
  subst e4
  cases (Option.some.inj e5)
  cases (show v' = .bl b from rv)
  exact ⟨b, rfl, q _ F' H' _ kr ((g1.trans0 g2).trans0 g3) rfl⟩
end
end G

/-! E7: the classes' addresses; what stands within a class. -/
namespace G
open PySem PySem.Spec PyProof.Rows L2 PySem.W
def clsB : Stmt → List Stmt
  | .ClassDef (body := b) .. => b
  | _ => []
/-- the exception's __init__ of the text: a function that captured its class -/
def initNF (name qual : Str) (st : Stmt) (cc c : Addr) : NdefX.NF := ⟨name, qual, defArgs st, defBody st, defScope st, [(("__class__" : Str), cc)], c⟩
end G

section
set_option maxHeartbeats 2000000
/-! E8: enumerate over a tuple. -/
namespace G
open PySem PySem.Spec PyProof.Rows L2 PySem.W
open AutoSeq1 (wpAny_loadPart')
theorem meets_enumT (l : Addr) (items : Array Value) (n : Nat) (dct : Option Addr) (sl : Array (Option Value)) :
    Meets (Builtin.«enumerate.__new__» ⟨[.type "enumerate", .ref l], []⟩) (fun _ R s => s.heap.get? l = some { cls := .type "tuple", dict := dct, data := .seq items n, slots := sl } ∧
      R (.ok (.ret (.ref (s.heap.push { cls := .type "tuple_iterator", data := .fields #[.ref l, .int 0 0] }).objs.size)))
        { s with heap := (s.heap.push { cls := .type "tuple_iterator", data := .fields #[.ref l, .int 0 0] }).push { cls := .type "enumerate", data := .fields #[.none, .bool false, .ref s.heap.objs.size, rawInt 0, .none, .none] } }) :=
  .of_wp fun prog w A R s h => by
    obtain ⟨hp, g, d, tk, os⟩ := s; obtain ⟨hl, h⟩ := h
    have hsub := sub_enumerate
    have hL : Heap.IsTuple (Shared.heap ⟨hp, g, d, tk, os⟩) l items := ⟨_, hl, rfl, n, rfl⟩
    wp_walk using wpAny_loadPart' hl
    refine wpAny_stack_any fun st => wpAny_pure ?_
    split
    · rename_i c _ _ _ _ _
      cases (c == Value.type "enumerate")
      · wp_walk using wpAny_loadPart' hl, wpAny_pyIter_tuple hL
        exact ⟨_, rfl, h⟩
      · wp_walk using wpAny_loadPart' hl, wpAny_pyIter_tuple hL
        exact ⟨_, rfl, h⟩
    · wp_walk using wpAny_loadPart' hl, wpAny_pyIter_tuple hL
      exact ⟨_, rfl, h⟩
section
variable {prog : Program} {w : World} {A : Around} {E : Value → Shared → Prop} {s : Shared}
theorem call_enumerate_tup {l : Addr} {items : Array Value} {Q : Value → Shared → Prop} (hL : s.heap.IsTuple l items)
    (h : ∀ h', IsEnum h' (s.heap.objs.size + 1) s.heap.objs.size 0 .none → h'.IsTupleIter s.heap.objs.size l 0 → h'.objs.size = s.heap.objs.size + 2 →
      (∀ b o, s.heap.get? b = some o → h'.get? b = some o) → Q (.ref (s.heap.objs.size + 1)) { s with heap := h' }) :
    wpAny (model prog w) A (call (.type "enumerate") [.ref l]) Q E s := by
  obtain ⟨⟨c, dct, dt, sl⟩, hl, hc, n, hd⟩ := hL
  replace hc : c = .type "tuple" := hc
  replace hd : dt = .seq items n := hd
  subst hc hd
  refine callType_new F.called_enumerate (by decide) (F.typeCall_enumerate_1 _) (F.newCall_enumerate_1 _) (fun obj => F.args_object_init_2 obj _) F.entry_enumerate_new
    (meets_enumT l items n dct sl) ⟨hl, ?_⟩
  have hz : (s.heap.push { cls := .type "tuple_iterator", data := .fields #[.ref l, .int 0 0] }).objs.size = s.heap.objs.size + 1 := Heap.size_push ..
  show _ ∧ _
  rw [hz]
  have he : IsEnum ((s.heap.push { cls := .type "tuple_iterator", data := .fields #[.ref l, .int 0 0] }).push
      { cls := .type "enumerate", data := .fields #[.none, .bool false, .ref s.heap.objs.size, rawInt 0, .none, .none] }) (s.heap.objs.size + 1) s.heap.objs.size 0 .none := by
    have := Heap.get?_push_size (s.heap.push { cls := .type "tuple_iterator", data := .fields #[.ref l, .int 0 0] })
      (o := { cls := .type "enumerate", data := .fields #[.none, .bool false, .ref s.heap.objs.size, rawInt 0, .none, .none] }) rfl
    rw [hz] at this; exact this
  refine ⟨⟨_, he, rfl⟩, h _ he ⟨_, Heap.get?_push_of_some _ (Heap.get?_push_size _ rfl), rfl, rfl⟩ (by rw [Heap.size_push, hz]) fun b o x => Heap.get?_push_of_some _ (Heap.get?_push_of_some _ x)⟩
end
/-- the tuple at a at each turn, each item in a new pair -/
def IteT (K : Frag) (a : Addr) : It :=
  ⟨fun i H => ∃ (xs : List V) (x : V), SqT K H a xs ∧ xs[i]? = some x, fun i H v H' => ∃ T x, v = .ref T ∧ H T = none ∧ H' = upd H T (.tup [.int (i : Nat), x]) ∧ ∀ xs, SqT K H a xs → xs[i]? = some x, fun i H => ∃ xs : List V, SqT K H a xs ∧ xs.length ≤ i⟩
theorem turn_enumT {P : Program} {w : World} {K : Frag} {elts : List Expr} {kk : Nat} {tpos : Pos} (a e it : Addr) :
    Turn P w K (.Tuple elts kk tpos) (IteT K a) [e, it] e (fun i h => (∃ old, IsEnum h e it ((i : Nat) : Int) old) ∧ h.IsTupleIter it a i ∧ e ≠ it) where
  mem := by simp
  obj := fun i h st b hb => by
    obtain ⟨⟨old, he⟩, ⟨o, ho, hc, hd⟩, _⟩ := st
    have e' : b = e ∨ b = it := by simpa using hb
    rcases e' with z | z
    · rw [z]; exact ⟨_, he, fun v q => nomatch q⟩
    · rw [z]; exact ⟨o, ho, fun v q => by rw [hd] at q; cases q⟩
  keep := fun i h h' st k => let ⟨⟨old, he⟩, hi, hne⟩ := st; ⟨⟨old, k e (by simp) _ he⟩, hi.at fun o q => k it (by simp) o q, hne⟩
  item := by
    intro X hP hw hK hc i pins s σ H E I hf st hg
    subst hP hw hK
    obtain ⟨⟨old, he⟩, hit, hne⟩ := st
    obtain ⟨xs, x, hq, hx⟩ := hg
    obtain ⟨its, rv, p, hz⟩ := I.tuple hq
    obtain ⟨u, hu, ru⟩ := rv.get hx
    have hel : e < s.heap.objs.size := Heap.lt_size he
    have hil : it < s.heap.objs.size := by obtain ⟨_, q, _⟩ := hit; exact Heap.lt_size q
    have pT : s.heap.IsTuple a its.toArray := p
    have ane : a ≠ it := fun z => by
      obtain ⟨o, q1, q2, _⟩ := hit
      obtain ⟨o2, q3, q4, _⟩ := pT
      rw [z, q1] at q3
      cases q3
      rw [q2] at q4
      exact absurd (Value.type.inj q4) (by decide)
    have ane2 : e ∉ [it, a] := fun z => by
      rcases List.mem_cons.mp z with z | z
      · exact hne z
      · rw [List.mem_singleton] at z
        obtain ⟨o2, q3, q4, _⟩ := pT
        rw [← z, show s.heap.get? e = _ from he] at q3
        cases q3
        exact absurd (Value.type.inj q4) (by decide)
    have hlt : i < its.toArray.size := by
      have := (List.getElem?_eq_some_iff.mp hu).1
      simpa using this
    have hh : X.A.in1.handled = none := I.ok.hd hc
    refine wpAny_pyNext_enum_itemD (Draws.tuple hh it a ane its.toArray) he ⟨hit, pT⟩ hlt hne ane2 fun y h' tk hy ho hst hT hsz hk => ?_
    have ey : y = u := by
      have h1 : its.toArray[i]? = some y := hy
      rw [List.getElem?_toArray, hu] at h1
      exact (Option.some.inj h1).symm
    subst ey
    refine ⟨_, rfl, wpAny_letOwnedTupleGo_enum (s := { s with heap := h', toks := tk + 1 }) ho fun h'' he' sb => ?_⟩
    have hT2 : h''.get? s.heap.objs.size = some { cls := .type "tuple", data := .seq #[.int i tk, y] } := (sb.2 _ (Nat.ne_of_gt hel)).trans hT
    have new : ObjOk X.prog X.w (upd H s.heap.objs.size (.tup [.int (i : Nat), x])) h'' s.heap.objs.size (.tup [.int (i : Nat), x]) :=
      ⟨by show 2 ≤ sizeLine; decide, [.int i tk, y], .cons ⟨_, rfl⟩ (.cons ru .nil), ⟨_, hT2, rfl, _, rfl⟩⟩
    have I1 : Inv X pins σ (upd H s.heap.objs.size (.tup [.int (i : Nat), x])) { s with heap := h'', toks := tk + 1 } :=
      I.turnedNew (ch := [e, it]) (fun b ob hb q => (sb.2 b (fun z => hb (by simp [z]))).trans (hk b ob (fun z => hb (by simp [z])) (fun z => hb (by simp [z])) q)) hf (Nat.le_refl _) new
    refine ⟨.ref s.heap.objs.size, _, I1, rfl, ⟨_, x, rfl, I.hok.fresh (Nat.le_refl _), rfl, fun ys hy => by rw [I.tuple_inj hy hq]; exact hx⟩, ⟨⟨y, ?_⟩, hst.1.at fun o q => (sb.2 it (Ne.symm hne)).trans q, hne⟩, fun b hb => ?_⟩
    · have e1 : ((i + 1 : Nat) : Int) = (i : Int) + 1 := by omega
      rw [e1]; exact he'
    · have hb' : b < s.heap.objs.size := by
        have e' : b = e ∨ b = it := by simpa using hb
        rcases e' with z | z
        · rw [z]; exact hel
        · rw [z]; exact hil
      rw [upd_ne (Nat.ne_of_lt hb')]
      exact (hf b hb).1
  done := by
    intro X hP hw hK hc i pins s σ H E I hf st hg
    subst hP hw hK
    obtain ⟨⟨old, he⟩, hit, hne⟩ := st
    obtain ⟨xs, hq, hx⟩ := hg
    obtain ⟨its, rv, p, hz⟩ := I.tuple hq
    obtain ⟨f0, f1, f2, f3, f4, f5⟩ := hf it (by simp)
    have hl := rv.length
    have pT : s.heap.IsTuple a its.toArray := p
    have ane : a ≠ it := fun z => by
      obtain ⟨o, q1, q2, _⟩ := hit
      obtain ⟨o2, q3, q4, _⟩ := pT
      rw [z, q1] at q3
      cases q3
      rw [q2] at q4
      exact absurd (Value.type.inj q4) (by decide)
    have hh : X.A.in1.handled = none := I.ok.hd hc
    have hTy : s.TypeIs (.ref e) "enumerate" := ⟨_, he, rfl⟩
    unfold pyNext
    refine wpAny_bind (wpAny_attempt (wpAny_callSpecial?_slot (name := Str.ofString "__next__") hTy F.slot_enumerate_next
      (wpAny_call_entry F.slot_enumerate_next hTy F.entry_enumerate_next ?_ (F.args_enumerate_next_1 _))))
    show wpAny _ _ (field (.ref e) 2 >>= _) _ _ _
    refine wpAny_bind (wpAny_field he rfl (x := .ref it) rfl ?_)
    refine wpAny_bind (wpAny_nextOf_tuple_end hh hit pT (by simp; omega) fun h' x he' hx' => ?_)
    obtain ⟨o, ho, hc2⟩ := hx'
    refine wpAny_bind (wpAny_isInstance (T := "StopIteration") (b := true) ⟨o, ho, hc2⟩ isSubtype_stop ?_)
    exact wpAny_pure ⟨rfl, I.turned (t' := s.toks) (fun b o hb q => he' b o hb q) f0 f1 f3 f4 f5⟩
  self := fun A i s Q E st h => let ⟨⟨_, he⟩, _⟩ := st; wpAny_pyIter_enum he h
def iEnumT (K : Frag) (ta : TA) : TI := fun σ H R => ta σ H fun vs H1 => ∃ a xs, vs = [.ref a] ∧ SqT K H1 a xs ∧ R (IteT K a) H1
theorem pi_enumT {X : Cx} {e : Expr} {ta : TA} {p pos tpos : Pos} {elts : List Expr} {kk : Nat} (hg : Gl X "enumerate") (hm : X.mg "enumerate" = none) (ha : PA X [e] ta) (hs : starEach [e] X.env = [(false, eval e X.env)] := by rfl) :
    PI X (.Tuple elts kk tpos) (.Call (.Name "enumerate" p) [e] [] pos) (iEnumT X.K ta) := by
  refine ⟨fun pins s σ H R I h => ?_⟩
  refine Call_ (ld_blt I hg hm boot_enumerate (PyProof.Rows.callWith_type1 (thn (ha.run pos pins s σ H _ I h) fun us s1 ⟨vs, H1, I1, r1, q1⟩ => ?_) hs rfl))
  obtain ⟨a, xs, ex, hq, q⟩ := q1
  subst ex
  cases r1 with
  | cons r rr =>
    cases rr
    cases r
    obtain ⟨its, rv, p', hz⟩ := I1.tuple hq
    refine call_enumerate_tup (show s1.heap.IsTuple a its.toArray from p') fun h' he hit hsz hk => wpAny_pyIter_enum he ?_
    have I2 : Inv X pins σ H1 { s1 with heap := h' } := I1.kept (t' := s1.toks) hk
    refine ⟨s1.heap.objs.size + 1, [s1.heap.objs.size + 1, s1.heap.objs.size], _, _, H1, rfl, I2, turn_enumT a (s1.heap.objs.size + 1) s1.heap.objs.size, ⟨⟨.none, he⟩, hit, Nat.succ_ne_self _⟩, fun b hb => ?_, q⟩
    have e' : b = s1.heap.objs.size + 1 ∨ b = s1.heap.objs.size := by simpa using hb
    have hle : s1.heap.objs.size ≤ b := by
      rcases e' with z | z
      · rw [z]; exact Nat.le_add_right _ _
      · rw [z]; exact Nat.le_refl _
    exact I1.fpOk hle (I1.hok.fresh hle)
end G
end

/-! E9: for i, x in enumerate(..): a statement's rule. -/
namespace G
open PySem PySem.Spec PyProof.Rows L2 PySem.W
section
variable {Y : YC} {Γ : List Cell} {te : TE} {α : Type} {d : Dat α} {k : Ks} {ts : TS} {g : TG}
def enumI {α : Type} (xs : List α) (i : Nat) : Option (Int × α) := xs[i]?.map fun x => ((i : Int), x)
theorem z_enumT (h : W Y te Γ (dTup (d := d)) fun xs => Body Y g ts (dPair (d1 := dInt) (d2 := d)) k (enumI xs.l) xs.l.length Γ) : Z Y (tFor (iEnumT Y.K (tCons te tNil)) g ts) Γ k := fun e F σ H D hM s c => h e F σ H s _ fun v F1 H1 xs ⟨I, h0, hs, hd⟩ g1 ⟨a, vs, e1, hq, r⟩ => by
  subst e1
  have s1 := s.grow g1
  obtain ⟨hx1, L1, kw1, _⟩ := id s1
  have c1 := c.into hx1 kw1
  have hqT : ∀ {H' : Hp} {F' : Hp}, Same F1 F' → Same F' H' → SqT Y.K H' a vs := fun s1 s2 => (hq.mono (s1.trans s2)).sq
  refine ⟨a, vs, rfl, hqT (Same.refl _) g1.fh, fun i m σ H => m = vs.length - i ∧ i ≤ vs.length ∧ ∃ F' Γ', State Y ⟨F1, e.H0, e.M⟩ F' σ H Γ' ∧ I i Γ', ⟨vs.length, rfl, Nat.zero_le _, F1, Γ, s1.into, h0⟩, fun i m σ H ⟨hm0, hi, F', Γ', st, hI⟩ => ?_⟩
  have hq' := hqT st.ff st.fh
  by_cases hlt : i < vs.length
  · right
    have hw : vs[i]? = some vs[i] := by simp [hlt]
    generalize vs[i] = w at hw
    obtain ⟨x, hx, rx⟩ := r.getV hw
    refine ⟨⟨vs, w, hq', hw⟩, fun σ' H' => ∃ F3 Γ3, State Y ⟨F1, e.H0, e.M⟩ F3 σ' H' Γ3 ∧ I (i + 1) Γ3, fun σ' H' ⟨F3, Γ3, s3, i3⟩ => ⟨vs.length - (i + 1), by omega, rfl, by omega, F3, Γ3, s3, i3⟩, fun x0 H' ⟨T, x', e2, hT, e3, hall⟩ => ?_⟩
    subst e2 e3
    have ex : x' = w := by
      have := hall vs hq'
      rw [hw] at this
      exact (Option.some.inj this).symm
    subst ex
    have gr : Gr F' H (upd F' T (.tup [.int (i : Nat), x'])) (upd H T (.tup [.int (i : Nat), x'])) := st.base.lay hT
    have st' := st.grow gr
    refine hs i ((i : Int), x) Γ' (by unfold enumI; rw [hx]; rfl) hI _ _ σ _ _ st' ⟨T, .int (i : Nat), x', rfl, .inl upd_same, rfl, d.mono (st.ff.trans gr.ff) rx⟩ _ fun σ2 Γ2 h2 st2 => ?_
    exact h2 ⟨F1, e.H0, e.M⟩ _ σ2 _ _ hM st2 ⟨fun F3 σ3 H3 Γ3 k3 st3 => ⟨F3, Γ3, st3, k3⟩, c1.rt, c1.nx, fun F3 σ3 H3 Γ3 k3 st3 => ⟨F3, Γ3, st3, k3⟩⟩
  · left
    have hi2 : i = xs.l.length := by rw [← r.len]; omega
    subst hi2
    exact ⟨⟨vs, hq', by rw [r.len]; exact Nat.le_refl _⟩, c1.nx F' σ H Γ' (hd Γ' hI) st⟩
theorem z_enum (h : W Y te Γ (dList (d := d)) fun xs => Body Y g ts (dPair (d1 := dInt) (d2 := d)) k (enumI xs) xs.length Γ) : Z Y (tFor (iEnum Y.K (tCons te tNil)) g ts) Γ k := fun e F σ H D hM s c => h e F σ H s _ fun v F1 H1 xs ⟨I, h0, hs, hd⟩ g1 ⟨a, vs, e1, hq, r⟩ => by
  subst e1
  have s1 := s.grow g1
  obtain ⟨hx1, L1, kw1, _⟩ := id s1
  have c1 := c.into hx1 kw1
  have hqT : ∀ {H' : Hp} {F' : Hp}, Same F1 F' → Same F' H' → SqL Y.K H' a vs := fun s1 s2 => (s1.trans s2).seq hq
  refine ⟨a, vs, rfl, hqT (Same.refl _) g1.fh, fun i m σ H => m = vs.length - i ∧ i ≤ vs.length ∧ ∃ F' Γ', State Y ⟨F1, e.H0, e.M⟩ F' σ H Γ' ∧ I i Γ', ⟨vs.length, rfl, Nat.zero_le _, F1, Γ, s1.into, h0⟩, fun i m σ H ⟨hm0, hi, F', Γ', st, hI⟩ => ?_⟩
  have hq' := hqT st.ff st.fh
  by_cases hlt : i < vs.length
  · right
    have hw : vs[i]? = some vs[i] := by simp [hlt]
    generalize vs[i] = w at hw
    obtain ⟨x, hx, rx⟩ := r.getV hw
    refine ⟨⟨vs, w, hq', hw⟩, fun σ' H' => ∃ F3 Γ3, State Y ⟨F1, e.H0, e.M⟩ F3 σ' H' Γ3 ∧ I (i + 1) Γ3, fun σ' H' ⟨F3, Γ3, s3, i3⟩ => ⟨vs.length - (i + 1), by omega, rfl, by omega, F3, Γ3, s3, i3⟩, fun x0 H' ⟨T, x', e2, hT, e3, hall⟩ => ?_⟩
    subst e2 e3
    have ex : x' = w := by
      have := hall vs hq'
      rw [hw] at this
      exact (Option.some.inj this).symm
    subst ex
    have gr : Gr F' H (upd F' T (.tup [.int (i : Nat), x'])) (upd H T (.tup [.int (i : Nat), x'])) := st.base.lay hT
    have st' := st.grow gr
    refine hs i ((i : Int), x) Γ' (by unfold enumI; rw [hx]; rfl) hI _ _ σ _ _ st' ⟨T, .int (i : Nat), x', rfl, .inl upd_same, rfl, d.mono (st.ff.trans gr.ff) rx⟩ _ fun σ2 Γ2 h2 st2 => ?_
    exact h2 ⟨F1, e.H0, e.M⟩ _ σ2 _ _ hM st2 ⟨fun F3 σ3 H3 Γ3 k3 st3 => ⟨F3, Γ3, st3, k3⟩, c1.rt, c1.nx, fun F3 σ3 H3 Γ3 k3 st3 => ⟨F3, Γ3, st3, k3⟩⟩
  · left
    have hi2 : i = xs.length := by rw [← r.len]; omega
    subst hi2
    exact ⟨⟨vs, hq', by rw [r.len]; exact Nat.le_refl _⟩, c1.nx F' σ H Γ' (hd Γ' hI) st⟩
end
end G

noncomputable section
/-! M0: the monad of the models, judgements that tie readings to models. -/
namespace G
open PySem L2

/-- the classes of the exceptions -/
inductive XC where
  | NotAPairing | NothingToUndo | NothingToRedo | BadLabel | NameTaken | NoSuchName | StillTied | ComesapartError | TooLarge | BadLine | UnknownPlace | BadSides | UnknownSide | UnknownTie | BadStep | Repeated | NotATurningCycle | UnknownPoint | UnknownPair | SamePoint | NoLinks | BadLink | BadNode | UnknownTerm | NotSameSteps | NoFacing | NotARing | NotAJoint | NotShut | BadCut | NoSuchCut | Locked | Nothing | BadName | BadSign | BadMove | NoTerm | NeverOpened | BoundTwice | UnknownName | UsedTwice | NotUsed | NotARedex | NotBalanced | NotAnArrow | NotAPermutation | BadSetting | BadSigns | BadChoice | NotOuter
  deriving DecidableEq
/-- an exception of a model: its class by name, its attributes -/
structure PX where
  cls : XC
  fs : Option (List (Str × V))
  deriving DecidableEq
/-- what a piece of a model gives: a value, an exception, or nothing that is spoken of -/
inductive M (α : Type) where
  | ok (x : α) : M α
  | exc (x : PX) : M α
  | bad : M α
instance : Monad M where
  pure := M.ok
  bind m f := match m with | .ok x => f x | .exc x => .exc x | .bad => .bad
namespace M
variable {α β γ : Type}
@[simp] theorem ok_bind (x : α) (f : α → M β) : (M.ok x >>= f) = f x := rfl
@[simp] theorem exc_bind (x : PX) (f : α → M β) : (M.exc x >>= f) = .exc x := rfl
@[simp] theorem bad_bind (f : α → M β) : ((M.bad : M α) >>= f) = .bad := rfl
@[simp] theorem pure_ok (x : α) : (pure x : M α) = .ok x := rfl
@[simp] theorem assoc (m : M α) (f : α → M β) (g : β → M γ) : ((m >>= f) >>= g) = (m >>= fun x => f x >>= g) := by cases m <;> rfl
@[simp] theorem bind_ok (m : M α) : (m >>= M.ok) = m := by cases m <;> rfl
def nb (m : M α) : Prop := m ≠ .bad
theorem nb1 {m : M α} {f : α → M β} (h : (m >>= f).nb) : m.nb := fun z => h (by rw [z]; rfl)
theorem nb2 {m : M α} {f : α → M β} {x : α} (h : (m >>= f).nb) (e : m = .ok x) : (f x).nb := fun z => h (by rw [e]; exact z)
/-- a guard: m where p holds (the choice is Classical: nothing is to be reckoned out) -/
def asrt (p : Prop) (m : M α) : M α := @ite _ p (Classical.propDecidable p) m .bad
theorem asrt_pos {p : Prop} {m : M α} (h : p) : asrt p m = m := @if_pos p (Classical.propDecidable p) h _ _ _
theorem asrt_nb {p : Prop} {m : M α} (h : (asrt p m).nb) : p := by
  unfold asrt at h
  split at h
  · assumption
  · exact absurd rfl h
def ofO : Option α → M α
  | some x => .ok x
  | none => .bad
@[simp] theorem ofO_some (x : α) : ofO (some x) = .ok x := rfl
/-- xs.append(y) -/
def push (xs : List α) (m : M α) : M (List α) := m >>= fun y => asrt (xs.length < PySem.sizeLine) (.ok (xs ++ [y]))
theorem push_ok {xs : List α} {y : α} (h : xs.length < PySem.sizeLine) : push xs (.ok y) = .ok (xs ++ [y]) := asrt_pos h
/-- xs[i] -/
def ix (xs : List α) (i : Int) : M α := ofO (atI xs i)
/-- range(n), range(a, b) -/
def range (n : Int) : M (List Int) := asrt (-(2 ^ 62) ≤ n ∧ n ≤ PySem.sizeLine) (.ok (rngL 0 n.toNat))
/-- for x in xs, nothing leaves it early -/
def fold {σ : Type} (f : σ → α → M σ) : σ → List α → M σ
  | s, [] => .ok s
  | s, x :: xs => f s x >>= fun s' => fold f s' xs
theorem fold_snoc {σ : Type} (f : σ → α → M σ) (x : α) : ∀ (xs : List α) (s : σ), fold f s (xs ++ [x]) = (fold f s xs >>= fun s' => f s' x)
  | [], s => by simp [fold]
  | y :: xs, s => by simp only [List.cons_append, fold, assoc]; congr 1; funext s'; exact fold_snoc f x xs s'
end M
/-- the end of a turn -/
inductive Ct (σ ρ : Type) where
  | nx (s : σ) : Ct σ ρ
  | rt (r : ρ) : Ct σ ρ
  | bk (s : σ) : Ct σ ρ
/-- behind a loop -/
def Ct.go {σ ρ τ : Type} (c : Ct σ ρ) (r : ρ → M τ) (n : σ → M τ) : M τ := match c with | .nx s => n s | .rt x => r x | .bk s => n s
namespace M
variable {α β γ σ ρ : Type}
/-- for x in xs, with returns or breaks -/
def foldC (f : σ → α → M (Ct σ ρ)) : σ → List α → M (Ct σ ρ)
  | s, [] => .ok (.nx s)
  | s, x :: xs => f s x >>= fun c => match c with | .nx s' => foldC f s' xs | c => .ok c
/-- n turns of a while, at most -/
def loopN (c : σ → M Bool) (f : σ → M σ) : Nat → σ → M σ
  | 0, _ => .bad
  | n + 1, s => c s >>= fun b => if b then f s >>= loopN c f n else .ok s
open Classical in
noncomputable def loop (c : σ → M Bool) (f : σ → M σ) (s : σ) : M σ := if h : ∃ n, loopN c f n s ≠ .bad then loopN c f h.choose s else .bad
/-- no exception comes out of it -/
def calm : M α → M α
  | .exc _ => .bad
  | m => m
@[simp] theorem calm_of_ok (x : α) : calm (.ok x : M α) = .ok x := rfl
theorem calm_nb {m : M α} (h : (calm m).nb) : ∃ x, m = .ok x := by
  cases m with
  | ok x => exact ⟨x, rfl⟩
  | exc x => exact absurd rfl h
  | bad => exact absurd rfl h
/-- [f x for x in xs if p x] -/
def comp (p : α → M Bool) (f : α → M β) : List α → M (List β)
  | [] => .ok []
  | x :: xs => calm (p x) >>= fun b => if b then calm (f x) >>= fun y => comp p f xs >>= fun ys => .ok (y :: ys) else comp p f xs
theorem comp_app (p : α → M Bool) (f : α → M β) : ∀ (xs ys : List α), comp p f (xs ++ ys) = (comp p f xs >>= fun a => comp p f ys >>= fun b => .ok (a ++ b))
  | [], ys => by simp [comp]
  | x :: xs, ys => by
    simp only [List.cons_append, comp, assoc]
    cases calm (p x) with
    | bad => rfl
    | exc x => rfl
    | ok b =>
      simp only [ok_bind]
      cases b with
      | false => exact comp_app p f xs ys
      | true =>
        simp only [if_true, assoc]
        cases calm (f x) with
        | bad => rfl
        | exc x => rfl
        | ok y =>
          simp only [ok_bind]
          rw [comp_app p f xs ys]
          cases comp p f xs <;> cases comp p f ys <;> rfl
theorem comp_ok (p : α → Bool) (f : α → β) : ∀ xs : List α, comp (fun x => .ok (p x)) (fun x => .ok (f x)) xs = .ok ((xs.filter p).map f)
  | [] => rfl
  | x :: xs => by
    simp only [comp, calm_of_ok, ok_bind]
    cases h : p x with
    | true => rw [if_pos rfl, comp_ok p f xs, List.filter_cons_of_pos h]; rfl
    | false => rw [if_neg (by simp), comp_ok p f xs, List.filter_cons_of_neg (by simp [h])]
theorem comp_map (f : α → β) (xs : List α) : comp (fun _ => .ok true) (fun x => .ok (f x)) xs = .ok (xs.map f) := by
  rw [comp_ok (fun _ => true) f xs]
  congr 2
  exact List.filter_eq_self.mpr fun _ _ => rfl
/-- what each turn gives, told for the items -/
theorem comp_of {p : α → M Bool} {f : α → M β} (p' : α → Bool) (f' : α → β) : ∀ xs : List α, (∀ x ∈ xs, p x = .ok (p' x)) → (∀ x ∈ xs, p' x = true → f x = .ok (f' x)) → comp p f xs = .ok ((xs.filter p').map f')
  | [], _, _ => rfl
  | x :: xs, h1, h2 => by
    have ih := comp_of p' f' xs (fun y hy => h1 y (List.mem_cons_of_mem _ hy)) fun y hy => h2 y (List.mem_cons_of_mem _ hy)
    simp only [comp]
    rw [h1 x List.mem_cons_self]
    simp only [calm_of_ok, ok_bind]
    cases h : p' x with
    | true => rw [if_pos rfl, h2 x List.mem_cons_self h, ih, List.filter_cons_of_pos h]; rfl
    | false => rw [if_neg (by simp), ih, List.filter_cons_of_neg (by simp [h])]
theorem fold_app {σ : Type} (f : σ → α → M σ) : ∀ (xs ys : List α) (s : σ), fold f s (xs ++ ys) = (fold f s xs >>= fun s' => fold f s' ys)
  | [], ys, s => by simp [fold]
  | x :: xs, ys, s => by
    simp only [List.cons_append, fold, assoc]
    congr 1; funext s'; exact fold_app f xs ys s'
theorem foldC_app (f : σ → α → M (Ct σ ρ)) : ∀ (xs ys : List α) (s : σ), foldC f s (xs ++ ys) = (foldC f s xs >>= fun c => match c with | .nx s' => foldC f s' ys | c => .ok c)
  | [], ys, s => by simp [foldC]
  | x :: xs, ys, s => by
    simp only [List.cons_append, foldC, assoc]
    congr 1; funext c
    cases c with
    | nx s' => exact foldC_app f xs ys s'
    | rt r => rfl
    | bk s' => rfl
/-- no turn leaves -/
theorem foldC_unit {f : Unit → α → M (Ct Unit ρ)} : ∀ xs : List α, (∀ x ∈ xs, f () x = .ok (.nx ())) → foldC f () xs = .ok (.nx ())
  | [], _ => rfl
  | x :: xs, h => by
    simp only [foldC]
    rw [h x List.mem_cons_self]
    exact foldC_unit xs fun y hy => h y (List.mem_cons_of_mem _ hy)
/-- enumerate(xs) -/
def enumL (xs : List α) : List (Int × α) := xs.zipIdx.map fun p => ((p.2 : Int), p.1)
theorem enumL_get (xs : List α) (i : Nat) : enumI xs i = (enumL xs)[i]? := by
  unfold enumI enumL
  rw [List.getElem?_map, List.getElem?_zipIdx]
  cases xs[i]? <;> simp
theorem enumL_len (xs : List α) : (enumL xs).length = xs.length := by simp [enumL]
end M

/-! ### judgements -/
/-- a model's exception over the classes' places -/
def PX.x (tx : XC → Addr) (x : PX) : Exn := ⟨tx x.cls, x.fs⟩
section
variable (tx : XC → Addr) (Y : YC)
def XkM {α : Type} (Γ : List Cell) (m : M α) : Prop := ∀ x, m = .exc x → Y.kx (x.x tx) Γ
/-- the term evaluates to frozen data as the model says -/
def We (te : TE) (Γ : List Cell) {α : Type} (d : Dat α) (m : M α) : Prop := m.nb → XkM tx Y Γ m → W Y te Γ d (m = .ok ·)
def Re (te : TE) (Γ : List Cell) {α : Type} (d : Dat α) (m : M α) : Prop := m.nb → XkM tx Y Γ m → R Y te Γ d (m = .ok ·)
def Oe (te : TE) (Γ : List Cell) {α : Type} {d : Dat α} (od : OD α) (m : M α) : Prop := m.nb → XkM tx Y Γ m → O Y te Γ od (m = .ok ·)
def Te (t : TT) (Γ : List Cell) (m : M Bool) : Prop := m.nb → XkM tx Y Γ m → T Y t Γ (m = .ok ·)
end
section
variable {tx : XC → Addr} {Y : YC} {Γ : List Cell} {te ta tb tc td : TE} {t u : TT} {α β γ δ ε : Type} {d : Dat α} {d1 : Dat α} {d2 : Dat β} {d3 : Dat γ}
theorem XkM.l {m : M α} {f : α → M β} (h : XkM tx Y Γ (m >>= f)) : XkM tx Y Γ m := fun x e => h x (by rw [e]; rfl)
theorem XkM.r {m : M α} {f : α → M β} {x : α} (h : XkM tx Y Γ (m >>= f)) (e : m = .ok x) : XkM tx Y Γ (f x) := fun y e2 => h y (by rw [e]; exact e2)
theorem XkM.ok {x : α} : XkM tx Y Γ (M.ok x) := fun _ z => nomatch z
theorem we_eq {m m' : M α} (h : We tx Y te Γ d m) (e : m = m') : We tx Y te Γ d m' := e ▸ h
theorem re_eq {m m' : M α} (h : Re tx Y te Γ d m) (e : m = m') : Re tx Y te Γ d m' := e ▸ h
theorem oe_eq {od : @OD α d} {m m' : M α} (h : Oe tx Y te Γ od m) (e : m = m') : Oe tx Y te Γ od m' := e ▸ h
theorem te_eq {m m' : M Bool} (h : Te tx Y t Γ m) (e : m = m') : Te tx Y t Γ m' := e ▸ h
theorem o_mono {od : @OD α d} {k k' : α → Prop} (h : O Y te Γ od k) (m : ∀ x, k x → k' x) : O Y te Γ od k' := fun e F σ H s Q q => h e F σ H s Q fun v F' H' L x kx g r => q v F' H' L x (m x kx) g r
theorem re_w {m : M α} (h : We tx Y te Γ d m) : Re tx Y te Γ d m := fun nb xk => r_of_w (h nb xk)
theorem we_o {od : @OD α d} {m : M α} (h : Oe tx Y te Γ od m) : We tx Y te Γ d m := fun nb xk => w_of_o (h nb xk)
/-- one part read, then the rest -/
theorem Re.k {m : M α} {f : α → M β} {k : α → Prop} (h : Re tx Y te Γ d m) (nb : (m >>= f).nb) (xk : XkM tx Y Γ (m >>= f)) (g : ∀ x, m = .ok x → (f x).nb → XkM tx Y Γ (f x) → k x) : R Y te Γ d k :=
  r_mono (h (M.nb1 nb) xk.l) fun x e => g x e (M.nb2 nb e) (xk.r e)
theorem We.k {m : M α} {f : α → M β} {k : α → Prop} (h : We tx Y te Γ d m) (nb : (m >>= f).nb) (xk : XkM tx Y Γ (m >>= f)) (g : ∀ x, m = .ok x → (f x).nb → XkM tx Y Γ (f x) → k x) : W Y te Γ d k :=
  w_mono (h (M.nb1 nb) xk.l) fun x e => g x e (M.nb2 nb e) (xk.r e)
theorem Oe.k {od : @OD α d} {m : M α} {f : α → M β} {k : α → Prop} (h : Oe tx Y te Γ od m) (nb : (m >>= f).nb) (xk : XkM tx Y Γ (m >>= f)) (g : ∀ x, m = .ok x → (f x).nb → XkM tx Y Γ (f x) → k x) : O Y te Γ od k :=
  o_mono (h (M.nb1 nb) xk.l) fun x e => g x e (M.nb2 nb e) (xk.r e)
theorem Te.k {m : M Bool} {f : Bool → M β} {k : Bool → Prop} (h : Te tx Y t Γ m) (nb : (m >>= f).nb) (xk : XkM tx Y Γ (m >>= f)) (g : ∀ x, m = .ok x → (f x).nb → XkM tx Y Γ (f x) → k x) : T Y t Γ k :=
  t_mono (h (M.nb1 nb) xk.l) fun x e => g x e (M.nb2 nb e) (xk.r e)
/-! shapes of rules -/
theorem we_p1 {f : α → β} {m : M α} (rule : ∀ k : β → Prop, (R Y ta Γ d1 fun x => k (f x)) → W Y te Γ d2 k) (h : Re tx Y ta Γ d1 m) : We tx Y te Γ d2 (m >>= fun x => .ok (f x)) := fun nb xk =>
  rule _ (h.k nb xk fun x e _ _ => by rw [e]; rfl)
theorem we_p1w {f : α → β} {m : M α} (rule : ∀ k : β → Prop, (W Y ta Γ d1 fun x => k (f x)) → W Y te Γ d2 k) (h : We tx Y ta Γ d1 m) : We tx Y te Γ d2 (m >>= fun x => .ok (f x)) := fun nb xk =>
  rule _ (h.k nb xk fun x e _ _ => by rw [e]; rfl)
theorem oe_p1w {od : @OD β d2} {f : α → β} {m : M α} (rule : ∀ k : β → Prop, (W Y ta Γ d1 fun x => k (f x)) → O Y te Γ od k) (h : We tx Y ta Γ d1 m) : Oe tx Y te Γ od (m >>= fun x => .ok (f x)) := fun nb xk =>
  rule _ (h.k nb xk fun x e _ _ => by rw [e]; rfl)
theorem we_p2 {f : α → β → γ} {m : M α} {n : M β} (rule : ∀ k : γ → Prop, (R Y ta Γ d1 fun x => R Y tb Γ d2 fun y => k (f x y)) → W Y te Γ d3 k) (h : Re tx Y ta Γ d1 m) (h2 : Re tx Y tb Γ d2 n) : We tx Y te Γ d3 (m >>= fun x => n >>= fun y => .ok (f x y)) := fun nb xk =>
  rule _ (h.k nb xk fun x e nb xk => h2.k nb xk fun y e2 _ _ => by rw [e]; show (n >>= _) = _; rw [e2]; rfl)
/-- a guarded operator -/
theorem we_g2 {P : α → β → Prop} [∀ x y, Decidable (P x y)] {f : α → β → γ} {m : M α} {n : M β} (rule : ∀ k : γ → Prop, (R Y ta Γ d1 fun x => R Y tb Γ d2 fun y => P x y ∧ k (f x y)) → W Y te Γ d3 k) (h : Re tx Y ta Γ d1 m) (h2 : Re tx Y tb Γ d2 n) : We tx Y te Γ d3 (m >>= fun x => n >>= fun y => M.asrt (P x y) (.ok (f x y))) := fun nb xk =>
  rule _ (h.k nb xk fun x e nb xk => h2.k nb xk fun y e2 nb2 _ => ⟨M.asrt_nb nb2, by rw [e]; show (n >>= _) = _; rw [e2]; show M.asrt _ _ = _; rw [M.asrt_pos (M.asrt_nb nb2)]⟩)
/-- an item looked up -/
theorem we_l2 {f : α → β → Option γ} {m : M α} {n : M β} (rule : ∀ k : γ → Prop, (W Y ta Γ d1 fun x => R Y tb Γ d2 fun y => ∃ z, f x y = some z ∧ k z) → W Y te Γ d3 k) (h : We tx Y ta Γ d1 m) (h2 : Re tx Y tb Γ d2 n) : We tx Y te Γ d3 (m >>= fun x => n >>= fun y => M.ofO (f x y)) := fun nb xk =>
  rule _ (h.k nb xk fun x e nb xk => h2.k nb xk fun y e2 nb2 _ => by
    cases q : f x y with
    | none => rw [q] at nb2; exact absurd rfl nb2
    | some z => exact ⟨z, rfl, by rw [e]; show (n >>= _) = _; rw [e2]; show M.ofO _ = _; rw [q]; rfl⟩)
theorem re_l2 {f : α → β → Option γ} {m : M α} {n : M β} (rule : ∀ k : γ → Prop, (R Y ta Γ d1 fun x => R Y tb Γ d2 fun y => ∃ z, f x y = some z ∧ k z) → R Y te Γ d3 k) (h : Re tx Y ta Γ d1 m) (h2 : Re tx Y tb Γ d2 n) : Re tx Y te Γ d3 (m >>= fun x => n >>= fun y => M.ofO (f x y)) := fun nb xk =>
  rule _ (h.k nb xk fun x e nb xk => h2.k nb xk fun y e2 nb2 _ => by
    cases q : f x y with
    | none => rw [q] at nb2; exact absurd rfl nb2
    | some z => exact ⟨z, rfl, by rw [e]; show (n >>= _) = _; rw [e2]; show M.ofO _ = _; rw [q]; rfl⟩)
end
end G
end

noncomputable section
/-! M1: the rules of expressions, with models. (printed in part by genM1.py) -/
namespace G
open PySem PySem.Spec PyProof.Rows L2 PySem.W
instance (i j : Int) : Decidable (CDiv i j) := inferInstanceAs (Decidable (_ ∧ _))
instance (i j : Int) : Decidable (CMul i j) := inferInstanceAs (Decidable (_ ∨ _))
instance (i j : Int) : Decidable (CPow i j) := inferInstanceAs (Decidable (_ ∧ _ ∧ _))
instance : @Flat Bool dBool := ⟨V.bl, fun h => h, fun _ => rfl, fun x y => by cases x <;> cases y <;> simp [eqV]⟩
section
variable {tx : XC → Addr} {Y : YC} {Γ : List Cell} {te ta tb tc td : TE} {t u : TT} {α β γ δ ε : Type} {d : Dat α} {d1 : Dat α} {d2 : Dat β} {d3 : Dat γ} {d4 : Dat δ}
theorem w_calm {k : α → Prop} (h : W (calm Y.g) te Γ d k) : W Y te Γ d k := fun e F σ H s Q q => h e F σ H ⟨fun _ _ _ _ _ _ z => z.elim, s.2⟩ Q q
theorem o_calm {od : @OD α d} {k : α → Prop} (h : O (calm Y.g) te Γ od k) : O Y te Γ od k := fun e F σ H s Q q => h e F σ H ⟨fun _ _ _ _ _ _ z => z.elim, s.2⟩ Q q
theorem t_calm {k : Bool → Prop} (h : T (calm Y.g) t Γ k) : T Y t Γ k := fun e F σ H s Q q => h e F σ H ⟨fun _ _ _ _ _ _ z => z.elim, s.2⟩ Q q
/-- an owned name read as if it were frozen -/
theorem we_borrow {od0 : @OD α d1} {x : α} {pin : Option V} [i : @Imm β d2] {m : M β} (j : Nat) (hj : Γ[j]? = some (.own d1 od0 pin x)) (h : We tx (calm Y.g) te (Γ.set j (.val d1 x)) d2 m) : We tx Y te Γ d2 (M.calm m) := fun nb xk => by
  obtain ⟨y, e⟩ := M.calm_nb nb
  subst e
  exact w_borrow j hj (h (fun z => nomatch z) XkM.ok)
/-! names, constants -/
theorem we_var {i : Nat} {x : α} (h : Γ[i]? = some (.val d x)) : We tx Y (tVar i) Γ d (.ok x) := fun _ _ => w_var h rfl
theorem re_varO {od : @OD α d} {pin : Option V} {i : Nat} {x : α} (h : Γ[i]? = some (.own d od pin x)) : Re tx Y (tVar i) Γ d (.ok x) := fun _ _ => r_varO h rfl
theorem we_int {n : Int} : We tx Y (tC (.int n)) Γ dInt (.ok n) := fun _ _ => w_int rfl
theorem we_bl {n : Bool} : We tx Y (tC (.bl n)) Γ dBool (.ok n) := fun _ _ => w_bl rfl
theorem we_str {n : Str} : We tx Y (tC (.str n)) Γ dStr (.ok n) := fun _ _ => w_str rfl
/-! operators -/
theorem we_add {m n : M Int} (h : Re tx Y ta Γ dInt m) (h2 : Re tx Y tb Γ dInt n) : We tx Y (tOp (rI0 fun i j => .int (i + j)) ta tb) Γ dInt (m >>= fun x => n >>= fun y => .ok (x + y)) := we_p2 (fun k h => w_add h) h h2
theorem we_sub {m n : M Int} (h : Re tx Y ta Γ dInt m) (h2 : Re tx Y tb Γ dInt n) : We tx Y (tOp (rI0 fun i j => .int (i - j)) ta tb) Γ dInt (m >>= fun x => n >>= fun y => .ok (x - y)) := we_p2 (fun k h => w_sub h) h h2
theorem we_mul {m n : M Int} (h : Re tx Y ta Γ dInt m) (h2 : Re tx Y tb Γ dInt n) : We tx Y (tOp (rI CMul fun i j => .int (i * j)) ta tb) Γ dInt (m >>= fun x => n >>= fun y => M.asrt (CMul x y) (.ok (x * y))) := we_g2 (fun k h => w_mul h) h h2
theorem we_mod {m n : M Int} (h : Re tx Y ta Γ dInt m) (h2 : Re tx Y tb Γ dInt n) : We tx Y (tOp (rI (fun _ j => 0 < j) fun i j => .int (i % j)) ta tb) Γ dInt (m >>= fun x => n >>= fun y => M.asrt (0 < y) (.ok (x % y))) := we_g2 (P := fun _ y => 0 < y) (fun k h => w_mod h) h h2
theorem we_fdiv {m n : M Int} (h : Re tx Y ta Γ dInt m) (h2 : Re tx Y tb Γ dInt n) : We tx Y (tOp (rI CDiv fun i j => .int (i / j)) ta tb) Γ dInt (m >>= fun x => n >>= fun y => M.asrt (CDiv x y) (.ok (x / y))) := we_g2 (fun k h => w_fdiv h) h h2
theorem we_pow {m n : M Int} (h : Re tx Y ta Γ dInt m) (h2 : Re tx Y tb Γ dInt n) : We tx Y (tOp (rI CPow fun i j => .int (i ^ j.toNat)) ta tb) Γ dInt (m >>= fun x => n >>= fun y => M.asrt (CPow x y) (.ok (x ^ y.toNat))) := we_g2 (fun k h => w_pow h) h h2
theorem we_powC {a b c : Int} (h : Re tx Y ta Γ dInt (.ok a)) (h2 : Re tx Y tb Γ dInt (.ok b)) (hc : CPow a b ∧ a ^ b.toNat = c) : We tx Y (tOp (rI CPow fun i j => .int (i ^ j.toNat)) ta tb) Γ dInt (.ok c) := we_eq (we_pow h h2) (by show M.asrt _ _ = _; rw [M.asrt_pos hc.1, hc.2])
theorem we_neg {m : M Int} (h : Re tx Y ta Γ dInt m) : We tx Y (tUn (rU fun i => .int (-i)) ta) Γ dInt (m >>= fun x => .ok (-x)) := we_p1 (fun k h => w_neg h) h
theorem we_lt {m n : M Int} (h : Re tx Y ta Γ dInt m) (h2 : Re tx Y tb Γ dInt n) : We tx Y (tOp (rI0 fun i j => .bl (decide (i < j))) ta tb) Γ dBool (m >>= fun x => n >>= fun y => .ok (decide (x < y))) := we_p2 (fun k h => w_lt h) h h2
theorem we_gt {m n : M Int} (h : Re tx Y ta Γ dInt m) (h2 : Re tx Y tb Γ dInt n) : We tx Y (tOp (rI0 fun i j => .bl (decide (j < i))) ta tb) Γ dBool (m >>= fun x => n >>= fun y => .ok (decide (y < x))) := we_p2 (fun k h => w_gt h) h h2
theorem we_ge {m n : M Int} (h : Re tx Y ta Γ dInt m) (h2 : Re tx Y tb Γ dInt n) : We tx Y (tOp (rI0 fun i j => .bl (decide (j ≤ i))) ta tb) Γ dBool (m >>= fun x => n >>= fun y => .ok (decide (y ≤ x))) := we_p2 (fun k h => w_ge h) h h2
/-- scalars of one kind, compared -/
class Sc (α : Type) [d : Dat α] where
  enc : α → V
  isEnc : ∀ {C : GCtx} {F : Hp} {v : V} {x : α}, d.rep C F v x → v = enc x
  scal : ∀ x y, L2.scal (enc x) (enc y) = true
  inj : ∀ x y, enc x = enc y → x = y
instance : Sc Int := ⟨V.int, fun h => h, fun _ _ => rfl, fun _ _ h => V.int.inj h⟩
instance : Sc Bool := ⟨V.bl, fun h => h, fun _ _ => rfl, fun _ _ h => V.bl.inj h⟩
instance : Sc Str := ⟨V.str, fun h => h, fun _ _ => rfl, fun _ _ h => V.str.inj h⟩
theorem w_eqS [s : @Sc α d] [DecidableEq α] {kb : Bool → Prop} (h : R Y ta Γ d fun x => R Y tb Γ d fun y => kb (decide (x = y))) : W Y (tOp rEq ta tb) Γ dBool kb := fun e F σ H st Q q => h e F σ H st _ fun v1 F1 H1 x h1 g1 r1 => h1 e F1 σ H1 (st.grow g1) _ fun v2 F2 H2 y ky g2 r2 => by
  cases s.isEnc r1
  cases s.isEnc r2
  exact ⟨s.scal x y, q _ F2 H2 _ ky (g1.trans0 g2) (by show V.bl _ = V.bl _; rw [decide_eq_decide.mpr ⟨s.inj x y, fun z => by rw [z]⟩])⟩
theorem w_neS [s : @Sc α d] [DecidableEq α] {kb : Bool → Prop} (h : R Y ta Γ d fun x => R Y tb Γ d fun y => kb (!decide (x = y))) : W Y (tOp rNe ta tb) Γ dBool kb := fun e F σ H st Q q => h e F σ H st _ fun v1 F1 H1 x h1 g1 r1 => h1 e F1 σ H1 (st.grow g1) _ fun v2 F2 H2 y ky g2 r2 => by
  cases s.isEnc r1
  cases s.isEnc r2
  exact ⟨s.scal x y, q _ F2 H2 _ ky (g1.trans0 g2) (by show V.bl _ = V.bl _; rw [decide_eq_decide.mpr ⟨s.inj x y, fun z => by rw [z]⟩])⟩
theorem we_eqS [s : @Sc α d] [DecidableEq α] {m n : M α} (h : Re tx Y ta Γ d m) (h2 : Re tx Y tb Γ d n) : We tx Y (tOp rEq ta tb) Γ dBool (m >>= fun x => n >>= fun y => .ok (decide (x = y))) := we_p2 (fun k h => w_eqS h) h h2
theorem we_neS [s : @Sc α d] [DecidableEq α] {m n : M α} (h : Re tx Y ta Γ d m) (h2 : Re tx Y tb Γ d n) : We tx Y (tOp rNe ta tb) Γ dBool (m >>= fun x => n >>= fun y => .ok (!decide (x = y))) := we_p2 (fun k h => w_neS h) h h2
theorem we_eqD [de : @DE α d] [DecidableEq α] {m n : M α} (hd : de.dep ≤ 64) (h : Re tx Y ta Γ d m) (h2 : Re tx Y tb Γ d n) : We tx Y (tOp (rEqP Y.K) ta tb) Γ dBool (m >>= fun x => n >>= fun y => .ok (decide (x = y))) := we_p2 (fun k h => w_eqD hd h) h h2
/-- a op b op' c, whole numbers -/
theorem we_chain {f f' : Int → Int → Bool} {m n o : M Int} (h : Re tx Y ta Γ dInt m) (h2 : Re tx Y tb Γ dInt n) (h3 : Re tx Y tc Γ dInt o) : We tx Y (tChain (rI0 fun i j => .bl (f i j)) (rI0 fun i j => .bl (f' i j)) ta tb tc) Γ dBool (m >>= fun x => n >>= fun y => if f x y then o >>= fun z => .ok (f' y z) else .ok false) := fun nb xk e F σ H s Q q =>
  (h.k nb xk (k := fun x => R Y tb Γ dInt fun y => (n = .ok y) ∧ ((if f x y = true then o >>= fun z => M.ok (f' y z) else .ok false) : M Bool).nb ∧ XkM tx Y Γ ((if f x y = true then o >>= fun z => M.ok (f' y z) else .ok false) : M Bool) ∧ m = .ok x) fun x e1 nb xk => h2.k nb xk fun y e2 nb xk => ⟨e2, nb, xk, e1⟩) e F σ H s _ fun v1 F1 H1 x hy g1 r1 => hy e F1 σ H1 (s.grow g1) _ fun v2 F2 H2 y ⟨e2, nb, xk, e1⟩ g2 r2 => by
    cases (show v1 = .int x from r1)
    cases (show v2 = .int y from r2)
    refine ⟨x, y, rfl, rfl, f x y, rfl, ?_⟩
    cases hf : f x y with
    | false => 
      rw [if_neg (by simp)]
      exact q _ F2 H2 false (by rw [e1]; show (n >>= _) = _; rw [e2]; show (if f x y = true then _ else _) = _; rw [hf]; rfl) (g1.trans0 g2) rfl
    | true =>
      rw [if_pos rfl]
      rw [hf, if_pos rfl] at nb xk
      refine h3.k nb xk (k := fun z => o = .ok z) (fun z e3 _ _ => e3) e F2 σ H2 ((s.grow g1).grow g2) _ fun v3 F3 H3 z e3 g3 r3 => ?_
      cases (show v3 = .int z from r3)
      exact ⟨y, z, rfl, rfl, q _ F3 H3 _ (by rw [e1]; show (n >>= _) = _; rw [e2]; show (if f x y = true then _ else _) = _; rw [hf, if_pos rfl, e3]; rfl) ((g1.trans0 g2).trans0 g3) rfl⟩
theorem we_chainP {f f' : Int → Int → Bool} {x y z : Int} (h : Re tx Y ta Γ dInt (.ok x)) (h2 : Re tx Y tb Γ dInt (.ok y)) (h3 : Re tx Y tc Γ dInt (.ok z)) : We tx Y (tChain (rI0 fun i j => .bl (f i j)) (rI0 fun i j => .bl (f' i j)) ta tb tc) Γ dBool (.ok (f x y && f' y z)) := we_eq (we_chain h h2 h3) (by
  show (if f x y = true then _ else _) = _
  cases hf : f x y <;> rfl)
/-! tests -/
theorem te_test {m : M Bool} (h : We tx Y te Γ dBool m) : Te tx Y (tTest te) Γ m := fun nb xk => t_test (r_of_w (h nb xk))
theorem te_B {m : M Bool} (h : We tx Y te Γ dBool m) : Te tx Y (tB te) Γ m := fun nb xk => t_B (r_of_w (h nb xk))
theorem te_not {m : M Bool} (h : Te tx Y t Γ m) : Te tx Y (tNot t) Γ (m >>= fun b => .ok (!b)) := fun nb xk => t_not (h.k nb xk fun b e _ _ => by rw [e]; rfl)
theorem te_and {m n : M Bool} (h : Te tx Y t Γ m) (h2 : Te tx Y u Γ n) : Te tx Y (tAnd t u) Γ (m >>= fun b => if b then n else .ok false) := fun nb xk => t_and (h.k nb xk fun b e nb xk => ⟨fun hb => by
  subst hb; exact t_mono (h2 nb xk) fun c ec => by rw [e]; exact ec, fun hb => by subst hb; rw [e]; rfl⟩)
theorem te_or {m n : M Bool} (h : Te tx Y t Γ m) (h2 : Te tx Y u Γ n) : Te tx Y (tOr t u) Γ (m >>= fun b => if b then .ok true else n) := fun nb xk => t_or (h.k nb xk fun b e nb xk => ⟨fun hb => by subst hb; rw [e]; rfl, fun hb => by
  subst hb; exact t_mono (h2 nb xk) fun c ec => by rw [e]; exact ec⟩)
theorem te_andP {a b : Bool} (h : Te tx Y t Γ (.ok a)) (h2 : Te tx Y u Γ (.ok b)) : Te tx Y (tAnd t u) Γ (.ok (a && b)) := te_eq (te_and h h2) (by cases a <;> rfl)
theorem te_orP {a b : Bool} (h : Te tx Y t Γ (.ok a)) (h2 : Te tx Y u Γ (.ok b)) : Te tx Y (tOr t u) Γ (.ok (a || b)) := te_eq (te_or h h2) (by cases a <;> rfl)
theorem we_and {m n : M Bool} (h : We tx Y ta Γ dBool m) (h2 : We tx Y tb Γ dBool n) : We tx Y (tAndV ta tb) Γ dBool (m >>= fun b => if b then n else .ok false) := fun nb xk => w_andV (r_of_w (h.k nb xk fun b e nb xk => ⟨fun hb => by
  subst hb; exact w_mono (h2 nb xk) fun c ec => by rw [e]; exact ec, fun hb => by subst hb; rw [e]; rfl⟩))
theorem we_andP {a b : Bool} (h : We tx Y ta Γ dBool (.ok a)) (h2 : We tx Y tb Γ dBool (.ok b)) : We tx Y (tAndV ta tb) Γ dBool (.ok (a && b)) := we_eq (we_and h h2) (by cases a <;> rfl)
theorem we_not {m : M Bool} (h : We tx Y ta Γ dBool m) : We tx Y (tNotV ta) Γ dBool (m >>= fun b => .ok (!b)) := fun nb xk => w_notV (r_of_w (h.k nb xk fun b e _ _ => by rw [e]; rfl))
/-! built-ins -/
theorem we_abs {m : M Int} (h : Re tx Y ta Γ dInt m) : We tx Y (tCB (fun xs H Q => ∃ i, xs = [.int i] ∧ Q (.int (if i < 0 then -i else i)) H) (tCons ta tNil)) Γ dInt (m >>= fun x => .ok (if x < 0 then -x else x)) := we_p1 (fun k h => w_abs h) h
theorem we_int1 {m : M Int} (h : Re tx Y ta Γ dInt m) : We tx Y (tCB (fun xs H Q => (∃ i, xs = [.int i] ∧ Q (.int i) H) ∨ ∃ k, xs = [.bl k] ∧ Q (.int (if k then 1 else 0)) H) (tCons ta tNil)) Γ dInt m := we_eq (we_p1 (f := fun x : Int => x) (fun k h => w_int1 h) h) (M.bind_ok m)
theorem we_len {m : M (List α)} (h : Re tx Y ta Γ (dList (d := d)) m) : We tx Y (tCB (fun xs H Q => ∃ p ys, xs = [.ref p] ∧ (SqL Y.K H p ys ∨ SqT Y.K H p ys) ∧ Q (.int ys.length) H) (tCons ta tNil)) Γ dInt (m >>= fun xs => .ok (xs.length : Int)) := we_p1 (f := fun xs : List α => (xs.length : Int)) (fun k h => w_len h) h
theorem we_lenT {m : M (Tup α)} (h : Re tx Y ta Γ (dTup (d := d)) m) : We tx Y (tCB (fun xs H Q => ∃ p ys, xs = [.ref p] ∧ (SqL Y.K H p ys ∨ SqT Y.K H p ys) ∧ Q (.int ys.length) H) (tCons ta tNil)) Γ dInt (m >>= fun xs => .ok (xs.l.length : Int)) := we_p1 (f := fun xs : Tup α => (xs.l.length : Int)) (fun k h => w_lenT h) h
theorem we_lenQ {m : M (Sq α)} (h : Re tx Y ta Γ (dSq (d := d)) m) : We tx Y (tCB (fun xs H Q => ∃ p ys, xs = [.ref p] ∧ (SqL Y.K H p ys ∨ SqT Y.K H p ys) ∧ Q (.int ys.length) H) (tCons ta tNil)) Γ dInt (m >>= fun xs => .ok (xs.l.length : Int)) := we_p1 (f := fun xs : Sq α => (xs.l.length : Int)) (fun k h => w_lenQ h) h
/-! items -/
theorem we_ix {m : M (List α)} {n : M Int} (h : We tx Y ta Γ (dList (d := d)) m) (h2 : Re tx Y tb Γ dInt n) : We tx Y (tOp (rIxL Y.K) ta tb) Γ d (m >>= fun xs => n >>= fun i => M.ix xs i) := we_l2 (fun k h => w_ix h) h h2
theorem re_ix {m : M (List α)} {n : M Int} (h : Re tx Y ta Γ (dList (d := d)) m) (h2 : Re tx Y tb Γ dInt n) : Re tx Y (tOp (rIxL Y.K) ta tb) Γ d (m >>= fun xs => n >>= fun i => M.ix xs i) := re_l2 (fun k h => r_ix h) h h2
theorem we_ixT {m : M (Tup α)} {n : M Int} (h : We tx Y ta Γ (dTup (d := d)) m) (h2 : Re tx Y tb Γ dInt n) : We tx Y (tOp (rIxT Y.K) ta tb) Γ d (m >>= fun xs => n >>= fun i => M.ix xs.l i) := we_l2 (f := fun (xs : Tup α) i => atI xs.l i) (fun k h => w_ixT h) h h2
/-- an item of an owned list -/
theorem we_ixO {pin : Option V} {i : Nat} {xs : List α} {n : M Int} (hi : Γ[i]? = some (.own (dList (d := d)) (oList (d := d)) pin xs)) (h2 : Re tx Y tb Γ dInt n) : We tx Y (tOp (rIxL Y.K) (tVar i) tb) Γ d (n >>= fun i => M.ix xs i) := fun nb xk => w_ixO hi (h2.k nb xk fun y e nb2 _ => by
  cases q : atI xs y with
  | none => unfold M.ix at nb2; rw [q] at nb2; exact absurd rfl nb2
  | some z => exact ⟨z, rfl, by rw [e]; show M.ix _ _ = _; unfold M.ix; rw [q]; rfl⟩)
/-- an item of a tuple of a known length, at a written place -/
theorem atI_c {K : Frag} {H : Hp} {a : Addr} {xs : List V} {F : Hp} (h : TpA K F a xs) (s : Same F H) : SqT K H a xs := (h.mono s).sq
theorem w_snd {k : β → Prop} (h : W Y te Γ (dPair (d1 := d) (d2 := d2)) fun x => k x.2) : W Y (tOp (rIxT Y.K) te (tC (.int 1))) Γ d2 k := fun e F σ H s Q q => h e F σ H s _ fun v F' H' x kx g ⟨a, v1, v2, ev, ht, r1, r2⟩ => by
  subst ev
  exact ⟨a, _, 1, v2, rfl, rfl, atI_c ht g.fh, rfl, q v2 F' H' _ kx g r2⟩
theorem we_snd {m : M (α × β)} (h : We tx Y te Γ (dPair (d1 := d) (d2 := d2)) m) : We tx Y (tOp (rIxT Y.K) te (tC (.int 1))) Γ d2 (m >>= fun x => .ok x.2) := we_p1w (fun k h => w_snd h) h
/-! membership -/
/-- x in xs -/
def memB {α : Type} [DecidableEq α] (x : α) (xs : List α) : Bool := decide (x ∈ xs)
theorem memB_iff {α : Type} [DecidableEq α] {x : α} {xs : List α} : memB x xs = true ↔ x ∈ xs := decide_eq_true_iff
theorem we_isi [ty : @Ty α d] {c : String} {b : Bool} {m : M α} (hk : PySem.W.kitOne Y.K (.type ty.tn) (.type c) = some b) (h : Re tx Y ta Γ d m) : We tx Y (tCB (rIsi Y.K) (tCons ta (tCons (tC (.ty c)) tNil))) Γ dBool (m >>= fun _ => .ok b) := we_p1 (f := fun _ : α => b) (fun k h => w_isi hk h) h
/-! tuples, lists -/
theorem we_tup2 {m : M α} {n : M β} (h : We tx Y ta Γ d m) (h2 : We tx Y tb Γ d2 n) : We tx Y (tTup (tCons ta (tCons tb tNil))) Γ (dPair (d1 := d) (d2 := d2)) (m >>= fun x => n >>= fun y => .ok (x, y)) := fun nb xk =>
  w_tup2 (h.k nb xk fun x e nb xk => h2.k nb xk fun y e2 nb xk => by rw [e]; show (n >>= _) = _; rw [e2]; rfl)
theorem we_tup4 {m : M α} {n : M β} {o : M γ} {p : M δ} (h : We tx Y ta Γ d m) (h2 : We tx Y tb Γ d2 n) (h3 : We tx Y tc Γ d3 o) (h4 : We tx Y td Γ d4 p) : We tx Y (tTup (tCons ta (tCons tb (tCons tc (tCons td tNil))))) Γ (dT4 (d1 := d) (d2 := d2) (d3 := d3) (d4 := d4)) (m >>= fun x => n >>= fun y => o >>= fun z => p >>= fun u => .ok ⟨x, y, z, u⟩) := fun nb xk =>
  w_tup4 (h.k nb xk fun x e nb xk => h2.k nb xk fun y e2 nb xk => h3.k nb xk fun z e3 nb xk => h4.k nb xk fun u e4 nb xk => by rw [e]; show (n >>= _) = _; rw [e2]; show (o >>= _) = _; rw [e3]; show (p >>= _) = _; rw [e4]; rfl)
def WLe (tx : XC → Addr) (Y : YC) (ta : TA) (Γ : List Cell) {α : Type} (d : Dat α) (m : M (List α)) : Prop := m.nb → XkM tx Y Γ m → WL Y ta Γ d (m = .ok ·)
theorem wl_mono {tl : TA} {k k' : List α → Prop} (h : WL Y tl Γ d k) (m : ∀ x, k x → k' x) : WL Y tl Γ d k' := fun e F σ H s Q q => h e F σ H s Q fun v F' H' x kx g r => q v F' H' x (m x kx) g r
theorem wle_nil : WLe tx Y tNil Γ d (.ok []) := fun _ _ => wl_nil rfl
theorem wle_cons {tr : TA} {m : M α} {n : M (List α)} (h : We tx Y te Γ d m) (h2 : WLe tx Y tr Γ d n) : WLe tx Y (tCons te tr) Γ d (m >>= fun x => n >>= fun xs => .ok (x :: xs)) := fun nb xk => wl_cons (h.k nb xk fun x e nb xk => wl_mono (h2 (M.nb1 nb) xk.l) fun xs e2 => by rw [e]; show (n >>= _) = _; rw [e2]; rfl)
theorem oe_lst {tl : TA} {m : M (List α)} (h : WLe tx Y tl Γ d m) (hl : ∀ xs, m = .ok xs → xs.length ≤ PySem.sizeLine) : Oe tx Y (tLst tl) Γ (oList (d := d)) m := fun nb xk => o_lst (wl_mono (h nb xk) fun xs e => ⟨hl xs e, e⟩)
theorem oe_lst0 : Oe tx Y (tLst tNil) Γ (oList (d := d)) (.ok []) := fun _ _ => o_nil rfl
theorem oe_nilDeep {od : @OD α d} : Oe tx Y (tLst tNil) Γ (oDeep od) (.ok []) := fun _ _ => o_nilDeep rfl
def asLen (n : Nat) (m : M (List α)) : Prop := ∀ xs, m = .ok xs → xs.length = n
theorem asLen0 : asLen 0 (.ok ([] : List α)) := fun xs e => by cases e; rfl
theorem asLenS {n : Nat} {m : M α} {o : M (List α)} (h : asLen n o) : asLen (n + 1) (m >>= fun x => o >>= fun xs => .ok (x :: xs)) := fun xs e => by
  cases m with
  | bad => cases e
  | exc x => cases e
  | ok x => cases ho : o with
    | bad => rw [ho] at e; cases e
    | exc x => rw [ho] at e; cases e
    | ok ys => rw [ho] at e; cases e; simp [h ys ho]
theorem oe_lstN {n : Nat} {tl : TA} {m : M (List α)} (h : WLe tx Y tl Γ d m) (hl : asLen n m) (hn : n ≤ 1000) : Oe tx Y (tLst tl) Γ (oList (d := d)) m := oe_lst h fun xs e => by rw [hl xs e]; exact Nat.le_of_lt (small1k (by omega))
theorem oe_listOf {m : M (List α)} (h : We tx Y ta Γ (dList (d := d)) m) : Oe tx Y (tCB (fun xs H Q => ∃ p ys, xs = [.ref p] ∧ (SqL Y.K H p ys ∨ SqT Y.K H p ys) ∧ ∀ l, H l = none → Q (.ref l) (upd H l (.lst ys))) (tCons ta tNil)) Γ (oList (d := d)) m := oe_eq (oe_p1w (f := fun x : List α => x) (fun k h => o_listOf h) h) (M.bind_ok m)
theorem oe_listOfT {m : M (Tup α)} (h : We tx Y ta Γ (dTup (d := d)) m) : Oe tx Y (tCB (fun xs H Q => ∃ p ys, xs = [.ref p] ∧ (SqL Y.K H p ys ∨ SqT Y.K H p ys) ∧ ∀ l, H l = none → Q (.ref l) (upd H l (.lst ys))) (tCons ta tNil)) Γ (oList (d := d)) (m >>= fun xs => .ok xs.l) := oe_p1w (f := fun x : Tup α => x.l) (fun k h => o_listOfT h) h
theorem we_tupOf {m : M (List α)} (h : We tx Y ta Γ (dList (d := d)) m) : We tx Y (tCB (fun xs H Q => ∃ p ys, xs = [.ref p] ∧ ((SqL Y.K H p ys ∧ ∀ l, H l = none → Q (.ref l) (upd H l (.tup ys))) ∨ (SqT Y.K H p ys ∧ Q (.ref p) H))) (tCons ta tNil)) Γ (dTup (d := d)) (m >>= fun xs => .ok ⟨xs⟩) := we_p1w (f := fun x : List α => (⟨x⟩ : Tup α)) (fun k h => w_tupOf h) h
/-! slices -/
/-! fields -/
theorem we_fld {C0 : Addr} {f : Str} {g : α → β} {m : M α} (hf : IsF d C0 f d2 g) (c : Cls Y.K C0) (n : NoAttr Y.K C0 f) (h : We tx Y te Γ d m) : We tx Y (tFld Y.K te f) Γ d2 (m >>= fun x => .ok (g x)) := we_p1w (fun k h => w_fld hf c n h) h
theorem we_con {C0 : Addr} {f : Str} {ns : List Str} {n : Int} {u : Value} {m : M α} (hf : IsI d C0 ns) (c : Cls Y.K C0) (k0 : Con Y.K C0 f (.int n) u) (hn : f ∉ ns) (h : Re tx Y te Γ d m) : We tx Y (tCon Y.K te f) Γ dInt (m >>= fun _ => .ok n) := we_p1 (f := fun _ : α => n) (fun k h => w_con hf c k0 hn h) h
end
section
variable {tx : XC → Addr} {Y : YC} {Γ : List Cell} {β : Type} {d : Dat β} {t1 t2 t3 t4 t5 t6 t7 : TE} {sp : Sp} {E : L2.St → XK}
variable {α0 α1 α2 α3 α4 α5 α6 α7 : Type} {d0 : Dat α0} {d1 : Dat α1} {d2 : Dat α2} {d3 : Dat α3} {d4 : Dat α4} {d5 : Dat α5} {d6 : Dat α6} {d7 : Dat α7} {m0 : M α0} {m1 : M α1} {m2 : M α2} {m3 : M α3} {m4 : M α4} {m5 : M α5} {m6 : M α6} {m7 : M α7} {t0 : TE}
theorem we_call1 {f : α1 → M β} (hs : ∀ x1, (f x1).nb → SpX Y.g sp [.val d1 x1] (fun c => ∃ r, c = .val d r ∧ (f x1) = .ok r) fun x => ∃ px, (f x1) = .exc px ∧ x = px.x tx) (hE : E = Y.E) (h1 : We tx Y t1 Γ d1 m1) : We tx Y (tCallS sp E (tCons t1 tNil)) Γ d (m1 >>= fun x1 => f x1) := fun nb xk => w_callX hE (wa_cons (h1.k nb xk fun x1 e1 nb xk => wa_nil fun vs H Q E fx => hs x1 nb vs H Q E (fx.mono (fun c ⟨r, e, q⟩ => ⟨r, e, by rw [e1]; exact q⟩) fun x ⟨px, e, q⟩ => q ▸ xk px e)))
theorem we_call2 {f : α1 → α2 → M β} (hs : ∀ x1 x2, (f x1 x2).nb → SpX Y.g sp [.val d1 x1, .val d2 x2] (fun c => ∃ r, c = .val d r ∧ (f x1 x2) = .ok r) fun x => ∃ px, (f x1 x2) = .exc px ∧ x = px.x tx) (hE : E = Y.E) (h1 : We tx Y t1 Γ d1 m1) (h2 : We tx Y t2 Γ d2 m2) : We tx Y (tCallS sp E (tCons t1 (tCons t2 tNil))) Γ d (m1 >>= fun x1 => m2 >>= fun x2 => f x1 x2) := fun nb xk => w_callX hE (wa_cons (h1.k nb xk fun x1 e1 nb xk => wa_cons (h2.k nb xk fun x2 e2 nb xk => wa_nil fun vs H Q E fx => hs x1 x2 nb vs H Q E (fx.mono (fun c ⟨r, e, q⟩ => ⟨r, e, by rw [e1]; show (m2 >>= _) = _; rw [e2]; exact q⟩) fun x ⟨px, e, q⟩ => q ▸ xk px e))))
theorem we_call3 {f : α1 → α2 → α3 → M β} (hs : ∀ x1 x2 x3, (f x1 x2 x3).nb → SpX Y.g sp [.val d1 x1, .val d2 x2, .val d3 x3] (fun c => ∃ r, c = .val d r ∧ (f x1 x2 x3) = .ok r) fun x => ∃ px, (f x1 x2 x3) = .exc px ∧ x = px.x tx) (hE : E = Y.E) (h1 : We tx Y t1 Γ d1 m1) (h2 : We tx Y t2 Γ d2 m2) (h3 : We tx Y t3 Γ d3 m3) : We tx Y (tCallS sp E (tCons t1 (tCons t2 (tCons t3 tNil)))) Γ d (m1 >>= fun x1 => m2 >>= fun x2 => m3 >>= fun x3 => f x1 x2 x3) := fun nb xk => w_callX hE (wa_cons (h1.k nb xk fun x1 e1 nb xk => wa_cons (h2.k nb xk fun x2 e2 nb xk => wa_cons (h3.k nb xk fun x3 e3 nb xk => wa_nil fun vs H Q E fx => hs x1 x2 x3 nb vs H Q E (fx.mono (fun c ⟨r, e, q⟩ => ⟨r, e, by rw [e1]; show (m2 >>= _) = _; rw [e2]; show (m3 >>= _) = _; rw [e3]; exact q⟩) fun x ⟨px, e, q⟩ => q ▸ xk px e)))))
theorem we_meth1 {C0 : Addr} {mn : Str} {ns : List Str} {f : α0 → α1 → M β} (hs : ∀ x0 x1, (f x0 x1).nb → SpX Y.g sp [.val d0 x0, .val d1 x1] (fun c => ∃ r, c = .val d r ∧ (f x0 x1) = .ok r) fun x => ∃ px, (f x0 x1) = .exc px ∧ x = px.x tx) (hE : E = Y.E) (hI : IsI d0 C0 ns) (hm : mn ∉ ns) (h0 : We tx Y t0 Γ d0 m0) (h1 : We tx Y t1 Γ d1 m1) : We tx Y (tMethE C0 mn sp E t0 (tCons t1 tNil)) Γ d (m0 >>= fun x0 => m1 >>= fun x1 => f x0 x1) := fun nb xk => w_methE hE hI hm (h0.k nb xk fun x0 e0 nb xk => wa_cons (h1.k nb xk fun x1 e1 nb xk => wa_nil fun vs H Q E fx => hs x0 x1 nb vs H Q E (fx.mono (fun c ⟨r, e, q⟩ => ⟨r, e, by rw [e0]; show (m1 >>= _) = _; rw [e1]; exact q⟩) fun x ⟨px, e, q⟩ => q ▸ xk px e)))
theorem oe_call1 {od : @OD β d} {f : α1 → M β} (hs : ∀ x1, (f x1).nb → SpX Y.g sp [.val d1 x1] (fun c => ∃ r, c = .own d od none r ∧ (f x1) = .ok r) fun x => ∃ px, (f x1) = .exc px ∧ x = px.x tx) (hE : E = Y.E) (h1 : We tx Y t1 Γ d1 m1) : Oe tx Y (tCallS sp E (tCons t1 tNil)) Γ od (m1 >>= fun x1 => f x1) := fun nb xk => o_callX hE (wa_cons (h1.k nb xk fun x1 e1 nb xk => wa_nil fun vs H Q E fx => hs x1 nb vs H Q E (fx.mono (fun c ⟨r, e, q⟩ => ⟨r, e, by rw [e1]; exact q⟩) fun x ⟨px, e, q⟩ => q ▸ xk px e)))
theorem oe_call2 {od : @OD β d} {f : α1 → α2 → M β} (hs : ∀ x1 x2, (f x1 x2).nb → SpX Y.g sp [.val d1 x1, .val d2 x2] (fun c => ∃ r, c = .own d od none r ∧ (f x1 x2) = .ok r) fun x => ∃ px, (f x1 x2) = .exc px ∧ x = px.x tx) (hE : E = Y.E) (h1 : We tx Y t1 Γ d1 m1) (h2 : We tx Y t2 Γ d2 m2) : Oe tx Y (tCallS sp E (tCons t1 (tCons t2 tNil))) Γ od (m1 >>= fun x1 => m2 >>= fun x2 => f x1 x2) := fun nb xk => o_callX hE (wa_cons (h1.k nb xk fun x1 e1 nb xk => wa_cons (h2.k nb xk fun x2 e2 nb xk => wa_nil fun vs H Q E fx => hs x1 x2 nb vs H Q E (fx.mono (fun c ⟨r, e, q⟩ => ⟨r, e, by rw [e1]; show (m2 >>= _) = _; rw [e2]; exact q⟩) fun x ⟨px, e, q⟩ => q ▸ xk px e))))
theorem oe_call3 {od : @OD β d} {f : α1 → α2 → α3 → M β} (hs : ∀ x1 x2 x3, (f x1 x2 x3).nb → SpX Y.g sp [.val d1 x1, .val d2 x2, .val d3 x3] (fun c => ∃ r, c = .own d od none r ∧ (f x1 x2 x3) = .ok r) fun x => ∃ px, (f x1 x2 x3) = .exc px ∧ x = px.x tx) (hE : E = Y.E) (h1 : We tx Y t1 Γ d1 m1) (h2 : We tx Y t2 Γ d2 m2) (h3 : We tx Y t3 Γ d3 m3) : Oe tx Y (tCallS sp E (tCons t1 (tCons t2 (tCons t3 tNil)))) Γ od (m1 >>= fun x1 => m2 >>= fun x2 => m3 >>= fun x3 => f x1 x2 x3) := fun nb xk => o_callX hE (wa_cons (h1.k nb xk fun x1 e1 nb xk => wa_cons (h2.k nb xk fun x2 e2 nb xk => wa_cons (h3.k nb xk fun x3 e3 nb xk => wa_nil fun vs H Q E fx => hs x1 x2 x3 nb vs H Q E (fx.mono (fun c ⟨r, e, q⟩ => ⟨r, e, by rw [e1]; show (m2 >>= _) = _; rw [e2]; show (m3 >>= _) = _; rw [e3]; exact q⟩) fun x ⟨px, e, q⟩ => q ▸ xk px e)))))
theorem oe_meth1 {od : @OD β d} {C0 : Addr} {mn : Str} {ns : List Str} {f : α0 → α1 → M β} (hs : ∀ x0 x1, (f x0 x1).nb → SpX Y.g sp [.val d0 x0, .val d1 x1] (fun c => ∃ r, c = .own d od none r ∧ (f x0 x1) = .ok r) fun x => ∃ px, (f x0 x1) = .exc px ∧ x = px.x tx) (hE : E = Y.E) (hI : IsI d0 C0 ns) (hm : mn ∉ ns) (h0 : We tx Y t0 Γ d0 m0) (h1 : We tx Y t1 Γ d1 m1) : Oe tx Y (tMethE C0 mn sp E t0 (tCons t1 tNil)) Γ od (m0 >>= fun x0 => m1 >>= fun x1 => f x0 x1) := fun nb xk => o_methE hE hI hm (h0.k nb xk fun x0 e0 nb xk => wa_cons (h1.k nb xk fun x1 e1 nb xk => wa_nil fun vs H Q E fx => hs x0 x1 nb vs H Q E (fx.mono (fun c ⟨r, e, q⟩ => ⟨r, e, by rw [e0]; show (m1 >>= _) = _; rw [e1]; exact q⟩) fun x ⟨px, e, q⟩ => q ▸ xk px e)))
theorem oe_make2 {od : @OD β d} {C0 : Addr} {f : α1 → α2 → M β} (hs : ∀ x1 x2, (f x1 x2).nb → SpI Y.g sp od C0 [.val d1 x1, .val d2 x2] (fun r => (f x1 x2) = .ok r) fun x => ∃ px, (f x1 x2) = .exc px ∧ x = px.x tx) (hE : E = Y.E) (h1 : We tx Y t1 Γ d1 m1) (h2 : We tx Y t2 Γ d2 m2) : Oe tx Y (tMakeS C0 sp E (tCons t1 (tCons t2 tNil))) Γ od (m1 >>= fun x1 => m2 >>= fun x2 => f x1 x2) := fun nb xk => o_makeS hE (wa_cons (h1.k nb xk fun x1 e1 nb xk => wa_cons (h2.k nb xk fun x2 e2 nb xk => wa_nil fun vs H Q E fx => hs x1 x2 nb vs H Q E (fx.mono (fun r q => by rw [e1]; show (m2 >>= _) = _; rw [e2]; exact q) fun x ⟨px, e, q⟩ => q ▸ xk px e))))
/-- x in o, by its own __contains__ -/
theorem we_inO {C0 : Addr} {ns : List Str} {b0 : Bool} {f : α2 → α1 → M Bool} (hs : ∀ y x, (f y x).nb → SpX Y.g sp [.val d2 y, .val d1 x] (fun c => ∃ r, c = .val dBool r ∧ f y x = .ok r) fun x' => ∃ px, f y x = .exc px ∧ x' = px.x tx) (hI : IsI d2 C0 ns) (h1 : We tx Y t1 Γ d1 m1) (h2 : We tx Y t2 Γ d2 m2) :
    We tx Y (tOp (rInO C0 sp b0) t1 t2) Γ dBool (m1 >>= fun x => m2 >>= fun y => M.calm (f y x) >>= fun b => .ok (if b0 then !b else b)) := fun nb xk => w_inO hI (h1.k nb xk fun x e1 nb xk => h2.k nb xk fun y e2 nb xk => fun vs H Q E fx => by
  obtain ⟨b, eb⟩ := M.calm_nb (M.nb1 nb)
  refine hs y x (by rw [eb]; exact fun z => nomatch z) vs H Q E (fx.mono (fun c ⟨r, e, q⟩ => ⟨r, e, ?_⟩) fun x' ⟨px, e, q⟩ => by rw [eb] at e; cases e)
  rw [eb] at q
  cases q
  rw [e1]; show (m2 >>= _) = _; rw [e2]; show (M.calm (f y x) >>= _) = _; rw [eb]; rfl)
end
end G
end

noncomputable section
/-! M2: what is walked, comprehensions, statements: with models. -/
namespace L2
open PySem PySem.Spec PyProof.Rows
section
variable {X : Cx}
/-- what is walked is no longer than a line -/
def iListB (K : PySem.W.Frag) (tl : TE) : TI := fun σ H R => tl σ H fun x H1 => ∃ a xs, x = .ref a ∧ SqL K H1 a xs ∧ (xs.length ≤ sizeLine → R (Itl K a) H1)
def iTupB (K : PySem.W.Frag) (tl : TE) : TI := fun σ H R => tl σ H fun x H1 => ∃ a xs, x = .ref a ∧ SqT K H1 a xs ∧ (xs.length ≤ sizeLine → R (Itt K a) H1)
theorem pi_listB {tg l : Expr} {tl : TE} (hl : PE X l tl) : PI X tg l (iListB X.K tl) := ⟨fun pins s σ H R I h => thn (hl.run pins s σ H _ I h) fun v s1 ⟨x, H1, I1, r1, a, xs, e, hq, q⟩ => by
  subst e
  cases r1
  obtain ⟨its, rv, p, hz⟩ := I1.list hq
  exact wpAny_pyIter_list p.isList (born I1 (turn_list a _) ⟨_, Heap.get?_push_size _ rfl, rfl, rfl⟩ (q hz))⟩
theorem pi_tupB {tg l : Expr} {tl : TE} (hl : PE X l tl) : PI X tg l (iTupB X.K tl) := ⟨fun pins s σ H R I h => thn (hl.run pins s σ H _ I h) fun v s1 ⟨x, H1, I1, r1, a, xs, e, hq, q⟩ => by
  subst e
  cases r1
  obtain ⟨its, rv, p, hz⟩ := I1.tuple hq
  exact wpAny_pyIter_tuple (show s1.heap.IsTuple a its.toArray from p) (born I1 (turn_tuple a _) ⟨_, Heap.get?_push_size _ rfl, rfl, rfl⟩ (q hz))⟩
theorem pi_lB (K : PySem.W.Frag) {tg l : Expr} {tl : TE} (hl : PE X l tl) (h : X.K = K := by rfl) : PI X tg l (iListB K tl) := h ▸ pi_listB hl
theorem pi_tB (K : PySem.W.Frag) {tg l : Expr} {tl : TE} (hl : PE X l tl) (h : X.K = K := by rfl) : PI X tg l (iTupB K tl) := h ▸ pi_tupB hl
end
end L2
namespace G
open PySem PySem.Spec PyProof.Rows L2 PySem.W
section
variable {tx : XC → Addr} {Y : YC} {Γ : List Cell} {te ta tb tc td tl : TE} {t u tt : TT} {α β γ δ ε σ τ ρ : Type} {d : Dat α} {d1 : Dat α} {d2 : Dat β} {d3 : Dat γ} {g : TG} {ts t1 t2 rest : TS} {js js' vs : List Nat}
/-! ### what a for walks -/
def Ie (tx : XC → Addr) (Y : YC) (ti : TI) (Γ : List Cell) {α : Type} (d : Dat α) (m : M (List α)) : Prop := m.nb → XkM tx Y Γ m → ∀ (g : TG) (ts : TS) (k : Ks), (∀ xs, m = .ok xs → Body Y g ts d k (fun i => xs[i]?) xs.length Γ) → Z Y (tFor ti g ts) Γ k
theorem ie_eq {ti : TI} {m m' : M (List α)} (h : Ie tx Y ti Γ d m) (e : m = m') : Ie tx Y ti Γ d m' := e ▸ h
theorem ie_list {m : M (List α)} (h : We tx Y tl Γ (dList (d := d)) m) : Ie tx Y (iList Y.K tl) Γ d m := fun nb xk g ts k hb => z_for (w_mono (h nb xk) fun xs e => hb xs e)
theorem ie_tup {m : M (Tup α)} (h : We tx Y tl Γ (dTup (d := d)) m) : Ie tx Y (iTup Y.K tl) Γ d (m >>= fun xs => .ok xs.l) := fun nb xk g ts k hb => z_forT (h.k nb xk fun xs e _ _ => hb xs.l (by rw [e]; rfl))
theorem ie_range {m : M Int} (h : Re tx Y ta Γ dInt m) : Ie tx Y (iRng1 (tCons ta tNil)) Γ dInt (m >>= M.range) := fun nb xk g ts k hb => z_range (h.k nb xk fun n e nb2 _ => by
  have hp := M.asrt_nb nb2
  refine ⟨hp.1, Int.lt_of_le_of_lt hp.2 (by decide), ?_⟩
  have := hb (rngL 0 n.toNat) (by rw [e]; exact M.asrt_pos hp)
  rw [rngL_len] at this
  rw [show rng 0 n.toNat = fun i => (rngL 0 n.toNat)[i]? from funext fun i => rng_get 0 n.toNat i]
  exact this)
theorem ie_enum {m : M (List α)} (h : We tx Y te Γ (dList (d := d)) m) : Ie tx Y (iEnum Y.K (tCons te tNil)) Γ (dPair (d1 := dInt) (d2 := d)) (m >>= fun xs => .ok (M.enumL xs)) := fun nb xk g ts k hb => z_enum (h.k nb xk fun xs e _ _ => by
  have := hb (M.enumL xs) (by rw [e]; rfl)
  rw [M.enumL_len] at this
  rw [show enumI xs = fun i => (M.enumL xs)[i]? from funext fun i => M.enumL_get xs i]
  exact this)
theorem ie_enumT {m : M (Tup α)} (h : We tx Y te Γ (dTup (d := d)) m) : Ie tx Y (iEnumT Y.K (tCons te tNil)) Γ (dPair (d1 := dInt) (d2 := d)) (m >>= fun xs => .ok (M.enumL xs.l)) := fun nb xk g ts k hb => z_enumT (h.k nb xk fun xs e _ _ => by
  have := hb (M.enumL xs.l) (by rw [e]; rfl)
  rw [M.enumL_len] at this
  rw [show enumI xs.l = fun i => (M.enumL xs.l)[i]? from funext fun i => M.enumL_get xs.l i]
  exact this)
/-! ### comprehensions -/
def Ic (tx : XC → Addr) (Y : YC) (ti : TI) (Γ : List Cell) {α : Type} (d : Dat α) (m : M (List α)) : Prop := m.nb → XkM tx Y Γ m → ∀ {β : Type} (d2 : Dat β) (g : TG) (tt : TT) (te : TE) (vs : List Nat) (kx : List β → Prop), (Tg g vs ∧ MoG g) →
  (∀ xs, m = .ok xs → xs.length ≤ PySem.sizeLine → CompB Y g tt te d d2 kx (fun i => xs[i]?) xs.length (wipeC Γ vs)) → O Y (tLc ti g tt te vs) Γ (oList (d := d2)) kx
theorem ic_list {m : M (List α)} (h : We tx Y tl Γ (dList (d := d)) m) : Ic tx Y (iListB Y.K tl) Γ d m := fun nb xk β d2 g tt te vs kx hT hb e F σ H s Q q => h nb xk e F σ H s _ fun v F1 H1 xs hm g1 ⟨a, us, e1, hq, r⟩ => by
  subst e1
  refine ⟨a, us, rfl, g1.fh.seq hq, fun hz D hD => ?_⟩
  obtain ⟨I, h0, hs, hd⟩ := hb xs hm (by rw [← r.len]; exact hz)
  have kw0 : Wk ⟨F1, H1, []⟩ F1 [(D, .lst [])] (upd H1 D (.lst [])) := g1.base.own hD (fun _ z => by cases z)
  refine lc_list (K := Y.K) (a := a) (xs := us) (fun i H => ∃ F' acc ys, Wk ⟨F1, H1, []⟩ F' [(D, .lst acc)] H ∧ Reps d2 Y.g F' acc ys ∧ I i ys) ⟨F1, [], [], kw0, trivial, h0⟩ (fun i H _ ⟨F', acc, ys, kw, _⟩ => (kw.ff.trans kw.fh).seq hq) (fun i w H hw p => ?_) fun H ⟨F', acc, ys, kw, ra, hi⟩ => ?_
  · obtain ⟨x, hx, rx⟩ := r.getV hw
    exact comp_turn (s.grow g1) hT.1 (hs i x · hx) (fun F' sm => d.mono sm rx) p
  · rw [r.len] at hi
    exact q _ F' H _ ys (hd ys hi) (by simpa using g1.trans kw) ⟨D, acc, rfl, rfl, ra⟩
theorem ic_range {m : M Int} (h : Re tx Y ta Γ dInt m) : Ic tx Y (iRng1 (tCons ta tNil)) Γ dInt (m >>= M.range) := fun nb xk β d2 g tt te vs kx hT hb => o_lcR hT (h.k nb xk fun n e nb2 _ => by
  have hp := M.asrt_nb nb2
  refine ⟨hp.1, Int.lt_of_le_of_lt hp.2 (by decide), ?_⟩
  have := hb (rngL 0 n.toNat) (by rw [e]; exact M.asrt_pos hp) (by rw [rngL_len]; have := hp.2; omega)
  rw [rngL_len] at this
  rw [show rng 0 n.toNat = fun i => (rngL 0 n.toNat)[i]? from funext fun i => rng_get 0 n.toNat i]
  exact this)
theorem te_yes : Te tx Y tYes Γ (.ok true) := fun _ _ => t_yes rfl
theorem oe_lc {ti : TI} {m0 : M (List α)} {p : α → M Bool} {f : α → M β} (hT : Tg g vs ∧ MoG g) (h : Ic tx Y ti Γ d m0) (hb : ∀ x, A Y g (wipeC Γ vs) d x fun Γ2 => Te tx (calm Y.g) tt Γ2 (p x) ∧ We tx (calm Y.g) te Γ2 d2 (f x)) :
    Oe tx Y (tLc ti g tt te vs) Γ (oList (d := d2)) (m0 >>= M.comp p f) := fun nb xk => h (M.nb1 nb) xk.l d2 g tt te vs _ hT fun xs e hz => by
  have nb2 : (M.comp p f xs).nb := M.nb2 nb e
  refine ⟨fun i ys => M.comp p f (xs.take i) = .ok ys ∧ ys.length ≤ i, ⟨rfl, Nat.le_refl _⟩, fun i x ys hx ⟨hi, hl⟩ => ?_, fun ys ⟨hi, _⟩ => ?_⟩
  · have hx' : xs[i]? = some x := hx
    have hlt : i < xs.length := (List.getElem?_eq_some_iff.mp hx').1
    have htk : xs.take (i + 1) = xs.take i ++ [x] := by rw [List.take_add_one, hx']; rfl
    have e1 : M.comp p f (xs.take (i + 1)) = (M.comp p f [x] >>= fun b => .ok (ys ++ b)) := by rw [htk, M.comp_app, hi]; rfl
    have nb3 : (M.comp p f [x]).nb := fun z => nb2 (by
      have : xs = xs.take (i + 1) ++ xs.drop (i + 1) := (List.take_append_drop _ _).symm
      rw [this, M.comp_app, e1, z]; rfl)
    intro e0 F σ0 H v s r Q q
    refine hb x e0 F σ0 H v s r Q fun σ' Γ' ⟨ht, hw⟩ s' => q σ' Γ' ?_ s'
    simp only [M.comp] at nb3 e1
    obtain ⟨b, hb1⟩ := M.calm_nb (M.nb1 nb3)
    rw [hb1] at nb3 e1
    simp only [M.calm_of_ok, M.ok_bind] at nb3 e1
    refine t_mono (t_calm (ht (by rw [hb1]; exact fun z => nomatch z) (by rw [hb1]; exact XkM.ok))) fun b' eb => ⟨fun z => ?_, fun z => ?_⟩
    · rw [hb1] at eb
      cases eb
      subst z
      rw [if_pos rfl] at nb3 e1
      obtain ⟨y, hy⟩ := M.calm_nb (M.nb1 nb3)
      rw [hy] at e1
      refine w_mono (w_calm (hw (by rw [hy]; exact fun z => nomatch z) (by rw [hy]; exact XkM.ok))) fun y' ey => ?_
      rw [hy] at ey
      cases ey
      exact ⟨by omega, e1, by simp; omega⟩
    · rw [hb1] at eb
      cases eb
      subst z
      rw [if_neg (by simp)] at e1
      exact ⟨by rw [e1]; simp, by omega⟩
  · rw [List.take_length] at hi
    rw [e]
    exact hi
/-! ### statements -/
theorem wipeC_len (Γ : List Cell) : ∀ js, (wipeC Γ js).length = Γ.length
  | [] => rfl
  | j :: js => by unfold wipeC; rw [List.length_set, wipeC_len Γ js]
theorem wipeC_set {Γ : List Cell} {i : Nat} {c : Cell} : ∀ {js : List Nat}, i ∈ js → wipeC (Γ.set i c) js = wipeC Γ js
  | [], h => nomatch h
  | j :: js, h => by
    unfold wipeC
    by_cases hi : i ∈ js
    · rw [wipeC_set hi]
    · have e : i = j := by
        rcases List.mem_cons.mp h with h | h
        · exact h
        · exact absurd h hi
      subst e
      have q : ∀ (js : List Nat), i ∉ js → wipeC (Γ.set i c) js = (wipeC Γ js).set i c := by
        intro js
        induction js with
        | nil => intro _; rfl
        | cons m js ih =>
          intro h
          unfold wipeC
          rw [ih (fun z => h (List.mem_cons_of_mem _ z)), set_comm _ _ _ (fun z => h (by rw [z]; exact List.mem_cons_self))]
      rw [q js hi]
      exact List.set_set _
theorem z_wipe {k : Ks} : ∀ (js : List Nat) {Γ : List Cell}, Z Y ts (wipeC Γ js) k → Z Y ts Γ k
  | [], _, h => h
  | j :: js, Γ, h => by
    refine z_wipe js ?_
    unfold wipeC at h
    cases q : (wipeC Γ js)[j]? with
    | some c => exact z_forget j q h
    | none =>
      rw [List.set_eq_of_length_le (List.getElem?_eq_none_iff.mp q)] at h
      exact h
structure Kt (τ : Type) where
  nx : τ → List Cell → Prop
  rt : τ → Cell → List Cell → Prop
  bk : τ → List Cell → Prop
  ct : τ → List Cell → Prop
def Kt.ks {τ : Type} (K : Kt τ) (m : M τ) : Ks := ⟨fun Γ => ∃ t, m = .ok t ∧ K.nx t Γ, fun c Γ => ∃ t, m = .ok t ∧ K.rt t c Γ, fun Γ => ∃ t, m = .ok t ∧ K.bk t Γ, fun Γ => ∃ t, m = .ok t ∧ K.ct t Γ⟩
/-- a def's end -/
def KF {ρ : Type} (cell : ρ → Cell) : Kt ρ := ⟨fun t _ => .val dUnit () = cell t, fun t c _ => c = cell t, fun _ _ => False, fun _ _ => False⟩
/-- a turn's end -/
def KL {σ : Type} (js' : List Nat) (cells : σ → List Cell) : Kt σ := ⟨fun s Γ => wipeC Γ js' = cells s, fun _ _ _ => False, fun _ _ => False, fun s Γ => wipeC Γ js' = cells s⟩
/-- a turn's end, where a turn may leave -/
def KC {σ ρ : Type} (js' : List Nat) (cells : σ → List Cell) (cell : ρ → Cell) : Kt (Ct σ ρ) := ⟨fun t Γ => ∃ s, t = .nx s ∧ wipeC Γ js' = cells s, fun t c _ => ∃ r, t = .rt r ∧ c = cell r, fun t Γ => ∃ s, t = .bk s ∧ wipeC Γ js' = cells s, fun t Γ => ∃ s, t = .nx s ∧ wipeC Γ js' = cells s⟩
def Xk (tx : XC → Addr) (Y : YC) (js : List Nat) (Γ : List Cell) {τ : Type} (m : M τ) : Prop := ∀ x, m = .exc x → ∀ Γ', wipeC Γ' js = wipeC Γ js → Y.kx (x.x tx) Γ'
theorem Xk.here {m : M τ} (h : Xk tx Y js Γ m) : XkM tx Y Γ m := fun x e => h x e Γ rfl
theorem Xk.r {Γ2 : List Cell} {m : M σ} {f : σ → M τ} {x : σ} (h : Xk tx Y js Γ (m >>= f)) (e : m = .ok x) (hw : wipeC Γ2 js = wipeC Γ js) : Xk tx Y js Γ2 (f x) := fun y e2 Γ' e3 => h y (by rw [e]; exact e2) Γ' (e3.trans hw)
theorem Xk.l {m : M σ} {f : σ → M τ} (h : Xk tx Y js Γ (m >>= f)) : Xk tx Y js Γ m := fun y e2 Γ' e3 => h y (by rw [e2]; rfl) Γ' e3
theorem Xk.w {Γ2 : List Cell} {m : M τ} (h : Xk tx Y js Γ m) (hw : wipeC Γ2 js = wipeC Γ js) : Xk tx Y js Γ2 m := fun y e2 Γ' e3 => h y e2 Γ' (e3.trans hw)
/-- the statement does as the model says -/
def Zm (tx : XC → Addr) (Y : YC) (js : List Nat) (ts : TS) (Γ : List Cell) {τ : Type} (K : Kt τ) (m : M τ) : Prop := m.nb → Xk tx Y js Γ m → Z Y ts Γ (K.ks m)
variable {K : Kt τ}
theorem Zm.go {Γ2 : List Cell} {m1 : M σ} {f : σ → M τ} {x : σ} (h : Zm tx Y js rest Γ2 K (f x)) (nb : (m1 >>= f).nb) (xk : Xk tx Y js Γ (m1 >>= f)) (e : m1 = .ok x) (hw : wipeC Γ2 js = wipeC Γ js) : Z Y rest Γ2 (K.ks (m1 >>= f)) := by
  have := h (M.nb2 nb e) (xk.r e hw)
  rw [e]
  exact this
theorem zm_last {m : M τ} (h : Zm tx Y js (tSeq ts tNext) Γ K m) : Zm tx Y js ts Γ K m := h
theorem zm_assoc {m : M τ} (h : Zm tx Y js (tSeq t1 (tSeq t2 rest)) Γ K m) : Zm tx Y js (tSeq (tSeq t1 t2) rest) Γ K m := h
theorem zm_skip {m : M τ} (h : Zm tx Y js rest Γ K m) : Zm tx Y js (tSeq tNext rest) Γ K m := h
theorem zm_set {i : Nat} {c0 : Cell} {m1 : M α} {m2 : α → M τ} (hi : Γ[i]? = some c0) (hj : i ∈ js) (h : We tx Y te Γ d m1) (h2 : ∀ x, Zm tx Y js rest (Γ.set i (.val d x)) K (m2 x)) : Zm tx Y js (tSeq (tAsg te (gName i)) rest) Γ K (m1 >>= m2) := fun nb xk =>
  z_seq (z_set hi (w_mono (h (M.nb1 nb) xk.l.here) fun x e => (h2 x).go nb xk e (wipeC_set hj)))
theorem zm_setO {od : @OD α d} {i : Nat} {c0 : Cell} {m1 : M α} {m2 : α → M τ} (hi : Γ[i]? = some c0) (hj : i ∈ js) (h : Oe tx Y te Γ od m1) (h2 : ∀ x, Zm tx Y js rest (Γ.set i (.own d od none x)) K (m2 x)) : Zm tx Y js (tSeq (tAsg te (gName i)) rest) Γ K (m1 >>= m2) := fun nb xk =>
  z_seq (z_setO hi (o_mono (h (M.nb1 nb) xk.l.here) fun x e => (h2 x).go nb xk e (wipeC_set hj)))
theorem a_mono {x : α} {k k' : List Cell → Prop} (h : A Y g Γ d x k) (m : ∀ Γ, k Γ → k' Γ) : A Y g Γ d x k' := fun e F σ H v s r Q q => h e F σ H v s r Q fun σ' Γ' kx s' => q σ' Γ' (m Γ' kx) s'
theorem zm_setG {m1 : M α} {m2 : α → M τ} (h : We tx Y te Γ d m1) (h2 : ∀ x, A Y g Γ d x fun Γ2 => wipeC Γ2 js = wipeC Γ js ∧ Zm tx Y js rest Γ2 K (m2 x)) : Zm tx Y js (tSeq (tAsg te g) rest) Γ K (m1 >>= m2) := fun nb xk =>
  z_seq (z_setG (w_mono (h (M.nb1 nb) xk.l.here) fun x e => a_mono (h2 x) fun Γ2 ⟨hw, hz⟩ => hz.go nb xk e hw))
theorem zm_drop {m1 : M α} {m2 : M τ} (h : Re tx Y te Γ d m1) (h2 : Zm tx Y js rest Γ K m2) : Zm tx Y js (tSeq (tDrop te) rest) Γ K (m1 >>= fun _ => m2) := fun nb xk =>
  z_seq (z_drop (kt := fun _ => True) (r_mono (h (M.nb1 nb) xk.l.here) fun x e => Zm.go (f := fun _ => m2) (x := x) h2 nb xk e rfl))
theorem zm_frz {od : @OD α d} {x : α} {m : M τ} (i : Nat) (hi : Γ[i]? = some (.own d od none x)) (hj : i ∈ js) (h : Zm tx Y js ts (Γ.set i (.val d x)) K m) : Zm tx Y js ts Γ K m := fun nb xk => z_frz i hi (h nb (xk.w (wipeC_set hj)))
theorem zm_to {Γ2 : List Cell} {m : M τ} (e : Γ = Γ2) (h : Zm tx Y js ts Γ2 K m) : Zm tx Y js ts Γ K m := e ▸ h
/-! stores into what is owned -/
theorem zm_append {pin : Option V} {i : Nat} {xs : List α} {m1 : M α} {m2 : List α → M τ} (hi : Γ[i]? = some (.own (dList (d := d)) (oList (d := d)) pin xs)) (hj : i ∈ js) (h : We tx Y te Γ d m1) (h2 : ∀ ys, Zm tx Y js rest (Γ.set i (.own (dList (d := d)) (oList (d := d)) pin ys)) K (m2 ys)) :
    Zm tx Y js (tSeq (tDrop (tBM Y.K "list" rAppend (tVar i) (tCons te tNil))) rest) Γ K (M.push xs m1 >>= m2) := fun nb xk =>
  z_seq (z_append hi (w_mono (h (M.nb1 (M.nb1 nb)) fun x e => xk.here x (by unfold M.push; rw [e]; rfl)) fun y e => by
    have nb1 : (M.push xs m1).nb := M.nb1 nb
    unfold M.push at nb1
    rw [e] at nb1
    have hl := M.asrt_nb nb1
    exact ⟨hl, (h2 (xs ++ [y])).go nb xk (by rw [e]; exact M.push_ok hl) (wipeC_set hj)⟩))
theorem zm_pushO {od : @OD α d} {pin : Option V} {i : Nat} {xs : List α} {m1 : M α} {m2 : List α → M τ} (hi : Γ[i]? = some (.own (dList (d := d)) (oDeep od) pin xs)) (hj : i ∈ js) (h : Oe tx Y te Γ od m1) (h2 : ∀ ys, Zm tx Y js rest (Γ.set i (.own (dList (d := d)) (oDeep od) pin ys)) K (m2 ys)) :
    Zm tx Y js (tSeq (tDrop (tBM Y.K "list" rAppend (tVar i) (tCons te tNil))) rest) Γ K (M.push xs m1 >>= m2) := fun nb xk =>
  z_seq (z_appendO hi (o_mono (h (M.nb1 (M.nb1 nb)) fun x e => xk.here x (by unfold M.push; rw [e]; rfl)) fun y e => by
    have nb1 : (M.push xs m1).nb := M.nb1 nb
    unfold M.push at nb1
    rw [e] at nb1
    have hl := M.asrt_nb nb1
    exact ⟨hl, (h2 (xs ++ [y])).go nb xk (by rw [e]; exact M.push_ok hl) (wipeC_set hj)⟩))
/-! ways -/
theorem zm_if {mb : M Bool} {m1 m2 : M τ} (hb : Te tx Y t Γ mb) (h1 : Zm tx Y js (tSeq t1 rest) Γ K m1) (h2 : Zm tx Y js (tSeq t2 rest) Γ K m2) : Zm tx Y js (tSeq (tIfS t t1 t2) rest) Γ K (mb >>= fun b => if b then m1 else m2) := fun nb xk => by
  have : Z Y (tIfS t (tSeq t1 rest) (tSeq t2 rest)) Γ (K.ks (mb >>= fun b => if b then m1 else m2)) := z_if (t_mono (hb (M.nb1 nb) xk.l.here) fun b e => ⟨fun z => by
    subst z
    exact Zm.go (f := fun b => if b = true then m1 else m2) (x := true) h1 nb xk e rfl, fun z => by
    subst z
    exact Zm.go (f := fun b => if b = true then m1 else m2) (x := false) h2 nb xk e rfl⟩)
  intro e F σ H D hM s c
  have q := this e F σ H D hM s c
  refine Eq.mp ?_ q
  unfold tIfS tSeq
  rfl
theorem zm_ifP {b : Bool} {m1 m2 : M τ} (hb : Te tx Y t Γ (.ok b)) (h1 : Zm tx Y js (tSeq t1 rest) Γ K m1) (h2 : Zm tx Y js (tSeq t2 rest) Γ K m2) : Zm tx Y js (tSeq (tIfS t t1 t2) rest) Γ K (if b then m1 else m2) := zm_if hb h1 h2
theorem zm_ret {cell : τ → Cell} {d : Dat τ} {m : M τ} (h : We tx Y te Γ d m) (hc : cell = fun r => .val d r := by rfl) : Zm tx Y js (tSeq (tRet te) rest) Γ (KF cell) m := fun nb xk => by
  subst hc
  exact z_ret (te := te) (k := (KF fun r => Cell.val d r).ks m) (w_mono (h nb xk.here) fun x e => ⟨x, e, rfl⟩)
theorem zm_retO {cell : τ → Cell} {d : Dat τ} {od : OD τ} {m : M τ} (h : Oe tx Y te Γ od m) (hc : cell = fun r => .own d od none r := by rfl) : Zm tx Y js (tSeq (tRet te) rest) Γ (KF cell) m := fun nb xk => by
  subst hc
  exact z_retO (te := te) (k := (KF fun r => Cell.own d od none r).ks m) (o_mono (h nb xk.here) fun x e => ⟨x, e, rfl⟩)
theorem zm_retV {cell : τ → Cell} {d : Dat τ} {od : OD τ} {i : Nat} {x : τ} (hi : Γ[i]? = some (.own d od none x)) (hc : cell = fun r => .own d od none r := by rfl) : Zm tx Y js (tSeq (tRet (tVar i)) rest) Γ (KF cell) (.ok x) := fun nb xk => by
  subst hc
  exact z_retV (k := (KF fun r => Cell.own d od none r).ks (M.ok x)) hi ⟨x, rfl, rfl⟩
theorem zm_end {cell : Unit → Cell} (hc : cell = fun r => .val dUnit r := by rfl) : Zm tx Y js tNext Γ (KF cell) (.ok ()) := fun nb xk => by
  subst hc
  exact z_next (k := (KF fun r => Cell.val dUnit r).ks (M.ok ())) ⟨(), rfl, rfl⟩
variable {cells : σ → List Cell} {cell : ρ → Cell} {s : σ}
theorem zm_retC {d : Dat ρ} {m : M ρ} (h : We tx Y te Γ d m) (hc : cell = fun r => .val d r := by rfl) : Zm tx Y js (tSeq (tRet te) rest) Γ (KC js' cells cell) (m >>= fun r => .ok (.rt r)) := fun nb xk => by
  subst hc
  exact z_ret (te := te) (k := (KC js' cells fun r => Cell.val d r).ks (m >>= fun r => .ok (.rt r))) (w_mono (h (M.nb1 nb) xk.l.here) fun x e => ⟨.rt x, by rw [e]; rfl, x, rfl, rfl⟩)
theorem zm_nextL (h : wipeC Γ js' = cells s) : Zm tx Y js tNext Γ (KL js' cells) (.ok s) := fun nb xk => z_next (k := (KL js' cells).ks (M.ok s)) ⟨s, rfl, h⟩
theorem zm_nextC (h : wipeC Γ js' = cells s) : Zm tx Y js tNext Γ (KC js' cells cell) (.ok (.nx s)) := fun nb xk => z_next (k := (KC js' cells cell).ks (M.ok (.nx s))) ⟨.nx s, rfl, s, rfl, h⟩
/-- ways that meet: no turn ends here -/
def KJ {σ : Type} (js' : List Nat) (cells : σ → List Cell) : Kt σ := ⟨fun s Γ => wipeC Γ js' = cells s, fun _ _ _ => False, fun _ _ => False, fun _ _ => False⟩
theorem zm_nextJ (h : wipeC Γ js' = cells s) : Zm tx Y js tNext Γ (KJ js' cells) (.ok s) := fun nb xk => z_next (k := (KJ js' cells).ks (M.ok s)) ⟨s, rfl, h⟩
theorem zm_join (js' : List Nat) (cells : σ → List Cell) {m1 : M σ} {m2 : σ → M τ} (hw : ∀ s, wipeC (cells s) js = wipeC Γ js) (h1 : Zm tx Y js t1 Γ (KJ js' cells) m1) (h2 : ∀ s, Zm tx Y js rest (cells s) K (m2 s)) : Zm tx Y js (tSeq t1 rest) Γ K (m1 >>= m2) := fun nb xk =>
  z_seq (z_mono (h1 (M.nb1 nb) xk.l) (fun Γ' ⟨s, e, hs⟩ => z_wipe js' (by rw [show wipeC Γ' js' = cells s from hs]; exact (h2 s).go nb xk e (hw s))) (fun _ _ ⟨_, _, z⟩ => z.elim) (fun _ ⟨_, _, z⟩ => z.elim) fun Γ' ⟨s, e, z⟩ => z.elim)
/-! loops -/
theorem zm_for {ti : TI} (js' : List Nat) (cells : σ → List Cell) (s0 : σ) {m0 : M (List α)} {f : σ → α → M σ} {m2 : σ → M τ} (hw0 : wipeC (wipeC Γ js') js = wipeC Γ js) (h0 : wipeC Γ js' = cells s0) (hw : ∀ s, wipeC (cells s) js = wipeC Γ js) (h : Ie tx Y ti (cells s0) d m0)
    (hb : ∀ s x, A Y g (cells s) d x fun Γ2 => wipeC Γ2 js = wipeC Γ js ∧ Zm tx Y js ts Γ2 (KL js' cells) (f s x)) (h2 : ∀ s, Zm tx Y js rest (cells s) K (m2 s)) : Zm tx Y js (tSeq (tFor ti g ts) rest) Γ K (m0 >>= fun xs => M.fold f s0 xs >>= m2) := fun nb xk => by
  refine z_wipe js' (by
    rw [h0]
    refine z_seq (h (M.nb1 nb) ((xk.w (hw s0)).l.here) g ts _ fun xs e => ?_)
    have nb1 : (M.fold f s0 xs >>= m2).nb := M.nb2 (f := fun xs => M.fold f s0 xs >>= m2) nb e
    have nb2 : (M.fold f s0 xs).nb := M.nb1 nb1
    refine ⟨fun i Γ' => ∃ s, M.fold f s0 (xs.take i) = .ok s ∧ wipeC Γ' js' = cells s, ⟨s0, rfl, ?_⟩, fun i x Γ' hx ⟨s, es, hΓ⟩ => ?_, fun Γ' ⟨s, es, hΓ⟩ => ?_⟩
    · rw [← h0]
      have : ∀ js : List Nat, wipeC (wipeC Γ js) js = wipeC Γ js := by
        intro l
        suffices ∀ (l m : List Nat), (∀ j ∈ m, j ∈ l) → wipeC (wipeC Γ l) m = wipeC Γ l from this l l fun _ h => h
        intro l m hm
        induction m with
        | nil => rfl
        | cons j m ih =>
          show (wipeC (wipeC Γ l) m).set j .no = _
          rw [ih fun k hk => hm k (List.mem_cons_of_mem _ hk)]
          have : ∀ l : List Nat, j ∈ l → (wipeC Γ l).set j .no = wipeC Γ l := by
            intro l hl
            induction l with
            | nil => exact nomatch hl
            | cons k l ih2 =>
              show ((wipeC Γ l).set k .no).set j .no = (wipeC Γ l).set k .no
              by_cases hk : j = k
              · subst hk; exact List.set_set _
              · rw [set_comm _ _ _ (fun z => hk z.symm), ih2 ((List.mem_cons.mp hl).resolve_left hk)]
          exact this l (hm j List.mem_cons_self)
      exact this js'
    · have htk : xs.take (i + 1) = xs.take i ++ [x] := by rw [List.take_add_one, show xs[i]? = some x from hx]; rfl
      have hs1 : M.fold f s0 (xs.take (i + 1)) = f s x := by rw [htk, M.fold_app, es]; show M.fold f s [x] = _; simp [M.fold]
      have hall : M.fold f s0 xs = (f s x >>= fun s' => M.fold f s' (xs.drop (i + 1))) := by
        have : xs = xs.take (i + 1) ++ xs.drop (i + 1) := (List.take_append_drop _ _).symm
        rw [this, M.fold_app, hs1, ← this]
      have nb3 : (f s x).nb := fun z => nb2 (by rw [hall, z]; rfl)
      have xk3 : ∀ {Γ2 : List Cell}, wipeC Γ2 js = wipeC Γ js → Xk tx Y js Γ2 (f s x) := fun {Γ2} hΓ2 y ey Γ' e3 => xk y (by rw [e]; show (M.fold f s0 xs >>= m2) = _; rw [hall, ey]; rfl) Γ' (e3.trans hΓ2)
      refine fun e0 F σ0 H v st r Q q => ?_
      have st2 : State Y e0 F σ0 H Γ' := st
      refine (show A Y g Γ' d x _ from ?_) e0 F σ0 H v st r Q q
      have hA := hb s x
      rw [← hΓ] at hA
      have lift : ∀ (js' : List Nat) (Γ' : List Cell) (k : List Cell → Prop), A Y g (wipeC Γ' js') d x k → A Y g Γ' d x k := by
        intro l
        induction l with
        | nil => intro _ _ h; exact h
        | cons j l ih =>
          intro Γ' k h
          refine ih Γ' k ?_
          unfold wipeC at h
          cases q : (wipeC Γ' l)[j]? with
          | some c => exact fun e F σ H v s r Q q' => h e F σ H v (s.hide q) r Q q'
          | none =>
            rw [List.set_eq_of_length_le (List.getElem?_eq_none_iff.mp q)] at h
            exact h
      refine lift js' Γ' _ (a_mono hA fun Γ2 ⟨hΓ2, hz⟩ => ?_)
      exact z_mono (hz nb3 (xk3 hΓ2)) (fun Γ3 ⟨s', e', h'⟩ => ⟨s', by rw [hs1]; exact e', h'⟩) (fun _ _ ⟨_, _, z⟩ => z.elim) (fun _ ⟨_, _, z⟩ => z.elim) fun Γ3 ⟨s', e', h'⟩ => ⟨s', by rw [hs1]; exact e', h'⟩
    · rw [List.take_length] at es
      refine z_wipe js' ?_
      rw [hΓ]
      have hz := Zm.go (f := m2) (x := s) (m1 := M.fold f s0 xs) (Γ := Γ) (h2 s) nb1 (Xk.r (f := fun xs => M.fold f s0 xs >>= m2) xk e rfl) es (hw s)
      rw [e]
      exact hz)
theorem wipeC_idem (Γ : List Cell) (js : List Nat) : wipeC (wipeC Γ js) js = wipeC Γ js := by
  suffices ∀ (l m : List Nat), (∀ j ∈ m, j ∈ l) → wipeC (wipeC Γ l) m = wipeC Γ l from this js js fun _ h => h
  intro l m hm
  induction m with
  | nil => rfl
  | cons j m ih =>
    show (wipeC (wipeC Γ l) m).set j .no = _
    rw [ih fun k hk => hm k (List.mem_cons_of_mem _ hk)]
    have : ∀ l : List Nat, j ∈ l → (wipeC Γ l).set j .no = wipeC Γ l := by
      intro l hl
      induction l with
      | nil => exact nomatch hl
      | cons k l ih2 =>
        show ((wipeC Γ l).set k .no).set j .no = (wipeC Γ l).set k .no
        by_cases hk : j = k
        · subst hk; exact List.set_set _
        · rw [set_comm _ _ _ (fun z => hk z.symm), ih2 ((List.mem_cons.mp hl).resolve_left hk)]
    exact this l (hm j List.mem_cons_self)
theorem a_wipe {x : α} : ∀ (js' : List Nat) {Γ' : List Cell} {k : List Cell → Prop}, A Y g (wipeC Γ' js') d x k → A Y g Γ' d x k
  | [], _, _, h => h
  | j :: l, Γ', k, h => by
    refine a_wipe l ?_
    unfold wipeC at h
    cases q : (wipeC Γ' l)[j]? with
    | some c => exact fun e F σ H v s r Q q' => h e F σ H v (s.hide q) r Q q'
    | none =>
      rw [List.set_eq_of_length_le (List.getElem?_eq_none_iff.mp q)] at h
      exact h
/-- a for whose turns may leave -/
theorem zm_forC {ti : TI} (js' : List Nat) (cells : σ → List Cell) (cell : ρ → Cell) (s0 : σ) {m0 : M (List α)} {f : σ → α → M (Ct σ ρ)} {mr : ρ → M τ} {m2 : σ → M τ} (hw0 : wipeC (wipeC Γ js') js = wipeC Γ js) (h0 : wipeC Γ js' = cells s0) (hw : ∀ s, wipeC (cells s) js = wipeC Γ js) (h : Ie tx Y ti (cells s0) d m0)
    (hb : ∀ s x, A Y g (cells s) d x fun Γ2 => wipeC Γ2 js = wipeC Γ js ∧ Zm tx Y js ts Γ2 (KC js' cells cell) (f s x)) (hr : ∀ r Γ', ∃ t, mr r = .ok t ∧ K.rt t (cell r) Γ') (h2 : ∀ s, Zm tx Y js rest (cells s) K (m2 s)) : Zm tx Y js (tSeq (tFor ti g ts) rest) Γ K (m0 >>= fun xs => M.foldC f s0 xs >>= fun c => c.go mr m2) := fun nb xk => by
  refine z_wipe js' (by
    rw [h0]
    refine z_seq (h (M.nb1 nb) ((xk.w (hw s0)).l.here) g ts _ fun xs e => ?_)
    have nb1 : (M.foldC f s0 xs >>= fun c => c.go mr m2).nb := M.nb2 (f := fun xs => M.foldC f s0 xs >>= fun c => c.go mr m2) nb e
    have nb2 : (M.foldC f s0 xs).nb := M.nb1 nb1
    -- behind the loop
    have fin : ∀ (s : σ) (c : Ct σ ρ) (Γ' : List Cell), M.foldC f s0 xs = .ok c → (c = .nx s ∨ c = .bk s) → wipeC Γ' js' = cells s → Z Y rest Γ' (K.ks (m0 >>= fun xs => M.foldC f s0 xs >>= fun c => c.go mr m2)) := fun s c Γ' es hc hΓ => by
      refine z_wipe js' ?_
      rw [hΓ]
      have hg : c.go mr m2 = m2 s := by rcases hc with z | z <;> (subst z; rfl)
      have hz := Zm.go (f := fun c : Ct σ ρ => c.go mr m2) (x := c) (show Zm tx Y js rest (cells s) K (c.go mr m2) from by rw [hg]; exact h2 s) (m1 := M.foldC f s0 xs) (Γ := Γ) nb1 (Xk.r (f := fun xs => M.foldC f s0 xs >>= fun c => c.go mr m2) xk e rfl) es (hw s)
      rw [e]
      exact hz
    refine ⟨fun i Γ' => ∃ s, M.foldC f s0 (xs.take i) = .ok (.nx s) ∧ wipeC Γ' js' = cells s, ⟨s0, rfl, by rw [← h0]; exact wipeC_idem Γ js'⟩, fun i x Γ' hx ⟨s, es, hΓ⟩ => ?_, fun Γ' ⟨s, es, hΓ⟩ => ?_⟩
    · have htk : xs.take (i + 1) = xs.take i ++ [x] := by rw [List.take_add_one, show xs[i]? = some x from hx]; rfl
      have hs1 : M.foldC f s0 (xs.take (i + 1)) = f s x := by
        rw [htk, M.foldC_app, es]; show M.foldC f s [x] = _
        simp only [M.foldC]
        cases f s x with
        | bad => rfl
        | exc x => rfl
        | ok c => cases c <;> rfl
      have hall : M.foldC f s0 xs = (f s x >>= fun c => match c with | .nx s' => M.foldC f s' (xs.drop (i + 1)) | c => .ok c) := by
        have : xs = xs.take (i + 1) ++ xs.drop (i + 1) := (List.take_append_drop _ _).symm
        rw [this, M.foldC_app, hs1, ← this]
        all_goals (cases f s x with
        | bad => rfl
        | exc x => rfl
        | ok c => cases c <;> rfl)
      have nb3 : (f s x).nb := fun z => nb2 (by rw [hall, z]; rfl)
      have xk3 : ∀ {Γ2 : List Cell}, wipeC Γ2 js = wipeC Γ js → Xk tx Y js Γ2 (f s x) := fun {Γ2} hΓ2 y ey Γ' e3 => xk y (by rw [e]; show (M.foldC f s0 xs >>= _) = _; rw [hall, ey]; rfl) Γ' (e3.trans hΓ2)
      have hA := hb s x
      rw [← hΓ] at hA
      refine a_wipe js' (a_mono hA fun Γ2 ⟨hΓ2, hz⟩ => ?_)
      refine z_mono (hz nb3 (xk3 hΓ2)) (fun Γ3 ⟨c, e', s', ec, h'⟩ => ⟨s', by rw [hs1, e', ec], h'⟩) (fun c Γ3 ⟨t, e', r, er, hc⟩ => ?_) (fun Γ3 ⟨c, e', s', ec, h'⟩ => ?_) fun Γ3 ⟨c, e', s', ec, h'⟩ => ⟨s', by rw [hs1, e', ec], h'⟩
      · subst er hc
        obtain ⟨t2, e2, hk⟩ := hr r Γ3
        exact ⟨t2, by rw [e]; show (M.foldC f s0 xs >>= _) = _; rw [hall, e']; exact e2, hk⟩
      · subst ec
        exact fin s' (.bk s') Γ3 (by rw [hall, e']; rfl) (.inr rfl) h'
    · rw [List.take_length] at es
      exact fin s (.nx s) Γ' es (.inl rfl) hΓ)
/-- returns through, of defs and of turns -/
theorem rt_KF {cell : τ → Cell} : ∀ (r : τ) (Γ' : List Cell), ∃ t, (M.ok r : M τ) = .ok t ∧ (KF cell).rt t (cell r) Γ' := fun r _ => ⟨r, rfl, rfl⟩
/-! ### the body of a def -/
theorem Zm.body {C : GCtx} {N : List Str} {cell : τ → Cell} {m : M τ} {vs : List V} {H : Hp} {Q : VK} {E : XK} (nb : m.nb) (h : FnX C Γ (fun c => ∃ r, c = cell r ∧ m = .ok r) (fun x => ∃ px, m = .exc px ∧ x = px.x tx) vs H Q E)
    (hz : Zm tx ⟨C, fun _ => E, fun x _ => ∃ px, m = .exc px ∧ x = px.x tx⟩ js ts (Γ ++ List.replicate (N.length - Γ.length) .no) (KF cell) m) : ts { nx := fun _ H' => Q .non H', rt := Q } (L2.start N vs) H :=
  h.body (z_mono (hz nb fun x e Γ' _ => ⟨x, e, rfl⟩) (fun Γ' ⟨t, e, q⟩ => ⟨t, q, e⟩) (fun c Γ' ⟨t, e, q⟩ => ⟨t, q, e⟩) (fun _ ⟨_, _, z⟩ => z) fun _ ⟨_, _, z⟩ => z)
/-- .. of a def that lets nothing out -/
theorem Zm.body0 {C : GCtx} {N : List Str} {cell : τ → Cell} {m : M τ} {x : τ} {vs : List V} {H : Hp} {Q : VK} (e : m = .ok x) (h : Fn C Γ (fun c => c = cell x) vs H Q)
    (hz : Zm tx (calm C) js ts (Γ ++ List.replicate (N.length - Γ.length) .no) (KF cell) m) : ts { nx := fun _ H' => Q .non H', rt := Q } (L2.start N vs) H := by
  subst e
  exact h.body (z_mono (hz (fun z => nomatch z) fun x e => nomatch e) (fun Γ' ⟨t, e, q⟩ => by cases e; exact q) (fun c Γ' ⟨t, e, q⟩ => by cases e; exact q) (fun _ ⟨_, _, z⟩ => z) fun _ ⟨_, _, z⟩ => z)
end
end G
end

noncomputable section
/-! M3: exceptions and instances, with models. -/
namespace G
open PySem PySem.Spec PyProof.Rows L2 PySem.W
/-- c is k, or k is a base of c -/
def XC.isA (c k : XC) : Bool := decide (k = .ComesapartError) || decide (c = k)
def M.raise1 {α : Type} (c : XC) (f : Str) (m : M Int) : M α := m >>= fun n => .exc ⟨c, some [(f, .int n)]⟩
def M.raise2 {α : Type} (c : XC) (f1 f2 : Str) (m1 m2 : M Int) : M α := m1 >>= fun n => m2 >>= fun n2 => .exc ⟨c, some [(f2, .int n2), (f1, .int n)]⟩
/-- try: m; except: h, for the classes that p tells; kn: the classes that are known -/
def M.tryK {α : Type} (kn p : XC → Bool) (m : M α) (h : PX → M α) : M α := match m with | .exc x => if kn x.cls then (if p x.cls then h x else .exc x) else .bad | m => m
/-- e.f where e is of the class c -/
def PX.fld (x : PX) (c : XC) (f : Str) : M Int := if x.cls = c then (match x.fs with | some fs => (match fs.lookup f with | some (.int n) => .ok n | _ => .bad) | none => .bad) else .bad
section
variable {tx : XC → Addr} {Y : YC} {Γ : List Cell} {te ta tb tc td tl t1 t2 : TE} {α β γ τ : Type} {d : Dat α} {d1 : Dat α} {d2 : Dat β} {ts rest : TS} {js : List Nat} {K : Kt τ} {Cx : Addr} {f1 f2 : Str} {Wt : WX}
theorem zm_raise1 {c : XC} {m : M Int} (hE : Y.E = WE Wt) (hc : tx c = Cx) (h : Re tx Y te Γ dInt m) : Zm tx Y js (tSeq (fun _ σ H => tMkO Cx (spX1 Cx f1) [] (tCons te tNil) σ H fun cls d H' => Wt cls d σ H') rest) Γ K (M.raise1 c f1 m) := fun nb xk => by
  subst hc
  exact z_raise1 (k := K.ks (M.raise1 c f1 m)) hE (r_mono (h (M.nb1 nb) xk.l.here) fun n e => xk ⟨c, some [(f1, .int n)]⟩ (by unfold M.raise1; rw [e]; rfl) Γ rfl)
theorem zm_raise2 {c : XC} {m n : M Int} (hE : Y.E = WE Wt) (hc : tx c = Cx) (h : Re tx Y t1 Γ dInt m) (h2 : Re tx Y t2 Γ dInt n) : Zm tx Y js (tSeq (fun _ σ H => tMkO Cx (spX2 Cx f1 f2) [] (tCons t1 (tCons t2 tNil)) σ H fun cls d H' => Wt cls d σ H') rest) Γ K (M.raise2 c f1 f2 m n) := fun nb xk => by
  subst hc
  refine z_raise2 (k := K.ks (M.raise2 c f1 f2 m n)) hE (h.k nb xk.here fun x e nb3 xk3 => r_mono (h2 (M.nb1 nb3) xk3.l) fun y e2 => xk ⟨c, some [(f2, .int y), (f1, .int x)]⟩ ?_ Γ rfl)
  unfold M.raise2; rw [e]; show (n >>= _) = _; rw [e2]; rfl
theorem z_wipeSet {k : Ks} {i : Nat} {c : Cell} : ∀ (js : List Nat) {Γ : List Cell}, Z Y ts ((wipeC Γ js).set i c) k → Z Y ts (Γ.set i c) k
  | [], _, h => h
  | j :: js, Γ, h => by
    refine z_wipeSet js ?_
    unfold wipeC at h
    by_cases hj : j = i
    · subst hj
      rw [List.set_set] at h
      exact h
    · rw [set_comm _ _ _ hj] at h
      exact z_wipe [j] h
/-- try: body; except c as the name at i: suite; a def's last statement -/
theorem zm_try {ρ : Type} {cell : ρ → Cell} (jt : List Nat) {tb : WX → TS} {tsu : Addr → Value → Option Addr → TS} {i : Nat} {cv : Value} {Wout : WX} {kn p : XC → Bool} {m : M ρ} {h : PX → M ρ} (hE : Y.E = WE Wout) (hi : ∃ c0, Γ[i]? = some c0) (hj : ∀ j ∈ jt, j ∈ js) (hij : i ∈ js)
    (hex : ∀ c, kn c = true → exmOne Y.K (.ref (tx c)) cv = some (p c))
    (hb : ∀ (W : WX) (kb : Exn → List Cell → Prop), Zm tx ⟨Y.g, WE W, kb⟩ jt (tb W) Γ (KF cell) m)
    (hs : ∀ px a d, kn px.cls = true → p px.cls = true → Zm tx Y js (tsu a (.ref (tx px.cls)) d) ((wipeC Γ jt).set i (.val (dExn a d) (px.x tx))) (KF cell) (h px)) :
    Zm tx Y js (tSeq (fun D σ H => tb (wAs Y.K cv i tsu Wout D) D σ H) tNext) Γ (KF cell) (M.tryK kn p m h) := fun nb xk => by
  have wj : ∀ {Γ' : List Cell}, wipeC Γ' jt = wipeC Γ jt → wipeC Γ' js = wipeC Γ js := by
    intro Γ' e
    have key : ∀ (G : List Cell) (l : List Nat), (∀ j ∈ l, j ∈ js) → wipeC (wipeC G l) js = wipeC G js := by
      intro G l
      induction l with
      | nil => intro _; rfl
      | cons j l ih => intro hl; show wipeC ((wipeC G l).set j .no) js = _; rw [wipeC_set (hl j List.mem_cons_self)]; exact ih fun k hk => hl k (List.mem_cons_of_mem _ hk)
    rw [← key Γ' jt hj, e, key Γ jt hj]
  have nbm : m.nb := fun z => nb (by unfold M.tryK; rw [z])
  have hz : Z Y (fun D σ H => tb (wAs Y.K cv i tsu Wout D) D σ H) Γ ((KF cell).ks (M.tryK kn p m h)) := by
    refine z_tryAs (fun x Γ' => ∃ px, m = .exc px ∧ x = px.x tx ∧ wipeC Γ' jt = wipeC Γ jt) hE (fun W => ?_) fun x Γ' ⟨px, em, ex, hΓ⟩ => ?_
    · refine z_mono (hb W _ nbm fun x e Γ' hΓ => ⟨x, e, rfl, hΓ⟩) (fun Γ' ⟨t, e, q⟩ => ⟨t, by unfold M.tryK; rw [e], q⟩) (fun c Γ' ⟨t, e, q⟩ => ⟨t, by unfold M.tryK; rw [e], q⟩) (fun _ ⟨_, _, z⟩ => z.elim) fun _ ⟨_, _, z⟩ => z.elim
    · subst ex
      have hkn : kn px.cls = true := by
        cases hk : kn px.cls with
        | true => rfl
        | false => exact absurd (by unfold M.tryK; rw [em]; show (if kn px.cls = true then _ else _) = _; rw [hk]; rfl) nb
      refine ⟨p px.cls, hex _ hkn, fun hp => ⟨?_, fun a d => ?_⟩, fun hp => ?_⟩
      · obtain ⟨c0, hc0⟩ := hi
        have hl : i < Γ'.length := by
          have e1 : Γ'.length = Γ.length := by rw [← wipeC_len Γ' jt, hΓ, wipeC_len]
          rw [e1]; exact (List.getElem?_eq_some_iff.mp hc0).1
        exact ⟨_, List.getElem?_eq_getElem hl⟩
      · have et : M.tryK kn p m h = h px := by unfold M.tryK; rw [em]; show (if kn px.cls = true then (if p px.cls = true then _ else _) else _) = _; rw [hkn, hp]; rfl
        refine z_wipeSet jt ?_
        rw [hΓ]
        have hw2 : wipeC ((wipeC Γ jt).set i (.val (dExn a d) (px.x tx))) js = wipeC Γ js := by
          rw [wipeC_set hij]; exact wj (wipeC_idem Γ jt)
        have q := hs px a d hkn hp (by rw [← et]; exact nb) (fun y ey Γ2 e2 => xk y (by rw [et]; exact ey) Γ2 (e2.trans hw2))
        refine z_mono q (fun Γ2 ⟨t, e, q⟩ => ⟨t, by rw [et]; exact e, q⟩) (fun c Γ2 ⟨t, e, q⟩ => ⟨t, by rw [et]; exact e, q⟩) (fun _ ⟨_, _, z⟩ => z.elim) fun _ ⟨_, _, z⟩ => z.elim
      · exact xk px (by unfold M.tryK; rw [em]; show (if kn px.cls = true then (if p px.cls = true then _ else _) else _) = _; rw [hkn, hp]; rfl) Γ' (wj hΓ)
  exact hz
/-- isinstance of the caught -/
theorem we_isX {a : Addr} {dd : Option Addr} {px : PX} {i : Nat} {c : V} {cv : Value} {kn : XC → Bool} {b : XC → Bool} (hi : Γ[i]? = some (.val (dExn a dd) (px.x tx))) (hkn : kn px.cls = true) (C : ∀ c, kn c = true → ExcC Y.K (tx c)) (hv : ∀ u, RelV c u → u = cv) (hk : ∀ c, kn c = true → kitOne Y.K (.ref (tx c)) cv = some (b c)) :
    We tx Y (tCB (rIsX Y.K a (.ref (tx px.cls)) dd) (tCons (tVar i) (tCons (tC c) tNil))) Γ dBool (.ok (b px.cls)) := fun nb xk => w_isX (x := px.x tx) hi rfl (C px.cls hkn) hv (hk px.cls hkn) rfl
theorem we_xf {a : Addr} {dd : Option Addr} {px : PX} {i : Nat} {c : XC} {f : Str} (hi : Γ[i]? = some (.val (dExn a dd) (px.x tx))) (hc : tx c = Cx) : We tx Y (tXf a (.ref (tx px.cls)) dd Cx f (tVar i)) Γ dInt (px.fld c f) := fun nb xk => by
  subst hc
  unfold PX.fld at nb ⊢
  split at nb
  · next hcls =>
    cases hfs : px.fs with
    | none => rw [hfs] at nb; exact absurd rfl nb
    | some fs =>
      rw [hfs] at nb
      cases hl : fs.lookup f with
      | none => simp only [hl] at nb; exact absurd rfl nb
      | some v =>
        cases v with
        | int n =>
          rw [if_pos hcls]
          exact w_xf (x := px.x tx) (n := n) (fs := fs) hi rfl (by show tx px.cls = _; rw [hcls]) hfs hl (by simp only [hl])
        | _ => simp only [hl] at nb; exact absurd rfl nb
  · exact absurd rfl nb
/-! making an instance -/
/-- the end of an __init__ -/
def KI {α : Type} {d : Dat α} (od : OD α) (p : Addr) : Kt α := ⟨fun t Γ => Γ[0]? = some (.own d od (some (.ref p)) t), fun _ _ _ => False, fun _ _ => False, fun _ _ => False⟩
theorem zm_endI {od : @OD α d} {p : Addr} {x : α} (h : Γ[0]? = some (.own d od (some (.ref p)) x)) : Zm tx Y js tNext Γ (KI od p) (.ok x) := fun nb xk => z_next (k := (KI od p).ks (M.ok x)) ⟨x, rfl, h⟩
theorem zm_fld1 {C0 : Addr} {f : Str} {i : Nat} {pin : Option V} {x : Ob0} {m1 : M β} {m2 : β → M τ} (hi : Γ[i]? = some (.own (dOb0 C0) (oOb0 C0) pin x)) (hj : i ∈ js) (c : Cls Y.K C0) (n : NoAttr Y.K C0 f) (h : We tx Y te Γ d2 m1) (h2 : ∀ y, Zm tx Y js rest (Γ.set i (.own (dOb1 C0 f) (oOb1 C0 f) pin ⟨y⟩)) K (m2 y)) :
    Zm tx Y js (tSeq (sFld Y.K (tVar i) te f) rest) Γ K (m1 >>= m2) := fun nb xk => z_seq (z_fld1 hi c n (w_mono (h (M.nb1 nb) xk.l.here) fun y e => (h2 y).go nb xk e (wipeC_set hj)))
theorem zm_fld2 {C0 : Addr} {f f0 : Str} {i : Nat} {pin : Option V} {x : Ob1 α} {m1 : M β} {m2 : β → M τ} (hi : Γ[i]? = some (.own (dOb1 (d1 := d) C0 f0) (oOb1 (d1 := d) C0 f0) pin x)) (hj : i ∈ js) (hne : (f0 == f) = false) (c : Cls Y.K C0) (n : NoAttr Y.K C0 f) (h : We tx Y te Γ d2 m1) (h2 : ∀ y, Zm tx Y js rest (Γ.set i (.own (dOb2 (d1 := d) (d2 := d2) C0 f0 f) (oOb2 (d1 := d) (d2 := d2) C0 f0 f) pin ⟨x.a, y⟩)) K (m2 y)) :
    Zm tx Y js (tSeq (sFld Y.K (tVar i) te f) rest) Γ K (m1 >>= m2) := fun nb xk => z_seq (z_fld2 hi hne c n (w_mono (h (M.nb1 nb) xk.l.here) fun y e => (h2 y).go nb xk e (wipeC_set hj)))
theorem Zm.bodyI {C : GCtx} {N : List Str} {C0 : Addr} {od : @OD α d} {m : M α} {vs : List V} {H : Hp} {Q : VK} {E : XK} (nb : m.nb) (h : FnI C od C0 Γ (fun r => m = .ok r) (fun x => ∃ px, m = .exc px ∧ x = px.x tx) vs H Q E)
    (hz : ∀ p, Zm tx ⟨C, fun _ => E, fun x _ => ∃ px, m = .exc px ∧ x = px.x tx⟩ js ts (.own (dOb0 C0) (oOb0 C0) (some (.ref p)) ⟨()⟩ :: (Γ ++ List.replicate (N.length - (Γ.length + 1)) .no)) (KI od p) m) : ts { nx := fun _ H' => Q .non H', rt := Q } (L2.start N vs) H :=
  h.body fun p => z_mono (hz p nb fun x e Γ' _ => ⟨x, e, rfl⟩) (fun Γ' ⟨t, e, q⟩ => ⟨t, q, e⟩) (fun _ _ ⟨_, _, z⟩ => z.elim) (fun _ ⟨_, _, z⟩ => z) fun _ ⟨_, _, z⟩ => z
end
end G
end

noncomputable section
/-! M4: the program's classes; more rules. -/
namespace G
open PySem PySem.Spec PyProof.Rows L2 PySem.W
theorem kitCls_ref {K : Frag} {t : Value} {C : Addr} {cd : ClassData} {b : Bool} (h1 : clsIn K C = some cd) (h2 : typeIn K (.ref C) = some (.type "type")) (h3 : subIn K t (.ref C) = some b) : kitCls K t (.ref C) = some b := by
  show (if ((clsIn K C).isSome && typeIn K (.ref C) == some (.type "type")) = true then subIn K t (.ref C) else none) = _
  rw [h1, h2, h3]
  exact if_pos (by simp)
theorem kit_refT {K : Frag} {t : Value} {C : Addr} {cd : ClassData} (h1 : clsIn K C = some cd) (h2 : typeIn K (.ref C) = some (.type "type")) (h3 : subIn K t (.ref C) = some true) : kitOne K t (.ref C) = some true := by
  unfold kitOne
  rw [kitCls_ref h1 h2 h3]
  split <;> rfl
theorem kit_refF {K : Frag} {D C : Addr} {cd : ClassData} (hne : D ≠ C) (h1 : clsIn K C = some cd) (h2 : typeIn K (.ref C) = some (.type "type")) (h3 : subIn K (.ref D) (.ref C) = some false) : kitOne K (.ref D) (.ref C) = some false := by
  unfold kitOne
  rw [kitCls_ref h1 h2 h3]
  exact if_neg (fun z => hne (Value.ref.inj (beq_iff_eq.mp z)))
theorem exm_ref {K : Frag} {t : Value} {C : Addr} {cd : ClassData} {b : Bool} (h0 : subIn K (.ref C) (.type "BaseException") = some true) (h1 : clsIn K C = some cd) (h2 : typeIn K (.ref C) = some (.type "type")) (h3 : subIn K t (.ref C) = some b) : exmOne K t (.ref C) = some b := by
  unfold exmOne
  rw [h0, kitCls_ref h1 h2 h3]
  rfl
theorem kit_VE {K : Frag} {D : Addr} (h : subIn K (.ref D) (.type "ValueError") = some true) : kitOne K (.ref D) (.type "ValueError") = some true := by
  unfold kitOne kitCls
  rw [if_neg (by simp)]
  show (if kitMeta "ValueError" = true then subIn K (.ref D) (.type "ValueError") else none) = _
  rw [if_pos (by decide +kernel), h]
/-- the program's classes of objects -/
inductive OC where
  | Web | PairedWeb | Wiring | Sum | Kind | Desk | Likeness | Batch
  deriving DecidableEq
/-- where the classes stand -/
structure CA3 where
  tx : XC → Addr
  ob : OC → Addr
abbrev T4I := T4 Int Int Int Int
abbrev WebM := Ob2 (Tup Int) (Tup (T4 Int Int Int Int))
abbrev PairedWebM := Ob2 Int (Tup (Int × Int))
abbrev LikenessM := Ob2 Int (Tup (Int × Int))
abbrev SumM := Ob1 (Tup (Int × Tup Int))
section
variable (A : CA3)
@[reducible] def dWeb : Dat WebM := dOb2 (d1 := (dTup (d := dInt))) (d2 := (dTup (d := (dT4 (d1 := dInt) (d2 := dInt) (d3 := dInt) (d4 := dInt))))) (A.ob .Web) "sides" "ties"
@[reducible] def oWeb : @OD WebM (dWeb A) := oOb2 (d1 := (dTup (d := dInt))) (d2 := (dTup (d := (dT4 (d1 := dInt) (d2 := dInt) (d3 := dInt) (d4 := dInt))))) (A.ob .Web) "sides" "ties"
theorem isI_Web : IsI (dWeb A) (A.ob .Web) ["sides", "ties"] := isI2
theorem isF_Web_sides : IsF (dWeb A) (A.ob .Web) "sides" (dTup (d := dInt)) Ob2.a := isF2a
theorem isF_Web_ties : IsF (dWeb A) (A.ob .Web) "ties" (dTup (d := (dT4 (d1 := dInt) (d2 := dInt) (d3 := dInt) (d4 := dInt)))) Ob2.b := isF2b (by decide)
@[reducible] def dPairedWeb : Dat PairedWebM := dOb2 (d1 := dInt) (d2 := (dTup (d := (dPair (d1 := dInt) (d2 := dInt))))) (A.ob .PairedWeb) "pairs" "free"
@[reducible] def oPairedWeb : @OD PairedWebM (dPairedWeb A) := oOb2 (d1 := dInt) (d2 := (dTup (d := (dPair (d1 := dInt) (d2 := dInt))))) (A.ob .PairedWeb) "pairs" "free"
@[reducible] def dLikeness : Dat LikenessM := dOb2 (d1 := dInt) (d2 := (dTup (d := (dPair (d1 := dInt) (d2 := dInt))))) (A.ob .Likeness) "size" "_like"
@[reducible] def oLikeness : @OD LikenessM (dLikeness A) := oOb2 (d1 := dInt) (d2 := (dTup (d := (dPair (d1 := dInt) (d2 := dInt))))) (A.ob .Likeness) "size" "_like"
@[reducible] def dSum : Dat SumM := dOb1 (d1 := (dTup (d := (dPair (d1 := dInt) (d2 := (dTup (d := dInt))))))) (A.ob .Sum) "_rows"
@[reducible] def oSum : @OD SumM (dSum A) := oOb1 (d1 := (dTup (d := (dPair (d1 := dInt) (d2 := (dTup (d := dInt))))))) (A.ob .Sum) "_rows"
end
section
variable {tx : XC → Addr} {Y : YC} {Γ : List Cell} {te ta tb tc td tl t1 t2 : TE} {α β γ δ τ : Type} {d : Dat α} {d1 : Dat α} {d2 : Dat β} {d3 : Dat γ} {d4 : Dat δ}
/-! operators with written numbers -/
theorem we_modC {m : M Int} {j : Int} (h : Re tx Y ta Γ dInt m) (h2 : Re tx Y tb Γ dInt (.ok j)) (hj : 0 < j := by decide) : We tx Y (tOp (rI (fun _ j => 0 < j) fun i j => .int (i % j)) ta tb) Γ dInt (m >>= fun x => .ok (x % j)) := we_eq (we_mod h h2) (by cases m <;> first | rfl | exact M.asrt_pos hj)
theorem we_fdivC {m : M Int} {j : Int} (h : Re tx Y ta Γ dInt m) (h2 : Re tx Y tb Γ dInt (.ok j)) (hj : CDiv 0 j := by decide) : We tx Y (tOp (rI CDiv fun i j => .int (i / j)) ta tb) Γ dInt (m >>= fun x => .ok (x / j)) := we_eq (we_fdiv h h2) (by cases m <;> first | rfl | exact M.asrt_pos hj)
theorem we_mulCr {m : M Int} {j : Int} (h : Re tx Y ta Γ dInt m) (h2 : Re tx Y tb Γ dInt (.ok j)) (hj : -(2 ^ 64) < j ∧ j < 2 ^ 64 := by decide) : We tx Y (tOp (rI CMul fun i j => .int (i * j)) ta tb) Γ dInt (m >>= fun x => .ok (x * j)) := we_eq (we_mul h h2) (by cases m <;> first | rfl | exact M.asrt_pos (.inr hj))
theorem we_mulCl {m : M Int} {j : Int} (h : Re tx Y ta Γ dInt (.ok j)) (h2 : Re tx Y tb Γ dInt m) (hj : -(2 ^ 64) < j ∧ j < 2 ^ 64 := by decide) : We tx Y (tOp (rI CMul fun i j => .int (i * j)) ta tb) Γ dInt (m >>= fun x => .ok (j * x)) := we_eq (we_mul h h2) (by cases m <;> first | rfl | exact M.asrt_pos (.inl hj))
/-! lists joined -/
def M.cat {α : Type} (xs ys : List α) : M (List α) := M.asrt (xs.length + ys.length ≤ PySem.sizeLine) (.ok (xs ++ ys))
/-! sets, dicts -/
end
end G
namespace L2
open PySem PySem.Spec PyProof.Rows
section
variable {X : Cx} (K : PySem.W.Frag)
theorem pg_tupK {es : List Expr} {k n : Nat} {t : TGs} {pos : Pos} (hc : X.calm = true) (h : PGs X es t) (hn : (assignEach es X.env).length = n := by rfl) (hst : (assignEach es X.env).findIdx? (·.1) = none := by rfl) (hK : X.K = K := by rfl) : PG X (.Tuple es k pos) (gTup K n t) := hK ▸ pg_tup hc h hn hst
theorem fld_K {e : Expr} {te : TE} {f : Str} {pos : Pos} (he : PE X e te) (hb : attributeBase e f X.env (eval e X.env) = eval e X.env) (hK : X.K = K := by rfl) : PE X (.Attribute e f pos) (tFld K te f) := hK ▸ pe_fld he hb
theorem con_K {e : Expr} {te : TE} {f : Str} {pos : Pos} (he : PE X e te) (hb : attributeBase e f X.env (eval e X.env) = eval e X.env) (hK : X.K = K := by rfl) : PE X (.Attribute e f pos) (tCon K te f) := hK ▸ pe_con he hb
end
/-- try: body; except c as the name at i: suite -/
def tTry (K : PySem.W.Frag) (c : Value) (i : Nat) (tb : WX → TS) (ts : Addr → Value → Option Addr → TS) (Wout : WX) : TS := fun D σ H => tb (wAs K c i ts Wout D) D σ H
section
variable {X : Cx} {x n : Str} {c : Value} {i : Nat} {body suite : List Stmt} {b₀ : Stmt} {np pos pos' : Pos} {tb : WX → TS} {ts : Addr → Value → Option Addr → TS} {Wout : WX}
theorem try_as (K : PySem.W.Frag) (hs : X.stack = X.env :: X.outer) (hf : X.env.frame = some X.env.locals) (hN : X.N.Nodup) (hi : X.N[i]? = some n) (hln : X.env.kindOf n = some .local) (hc : Names X x c) (tk : Takes X Wout)
    (hb : ∀ (W : WX) (pn : List (Addr × Obj)) (xe : Value → Shared → Prop), Takes (X.tr pn xe) W → PassesOwn (model X.prog X.w) X.A X.env xe → PSs (X.tr pn xe) body (tb W))
    (hsu : ∀ (a : Addr) (oe : Obj) (cls : Value) (d : Option Addr) (pn : List (Addr × Obj)), Zc cls d oe → (∃ vs, oe.data = .fields vs) → PSs (X.suite a ((a, oe) :: pn)) (b₀ :: suite) (ts a cls d)) (hK : X.K = K := by rfl) :
    PS X (.Try body [.ExceptHandler (some (.Name x np)) (some n) (b₀ :: suite) pos'] [] [] pos) (tTry K c i tb ts Wout) := hK ▸ ps_try_as hs hf hN hi hln hc tk hb hsu
end
end L2
namespace G
open PySem PySem.Spec PyProof.Rows L2 PySem.W
theorem zm_tryT {tx : XC → Addr} {Y : YC} {Γ : List Cell} {js : List Nat} {ρ : Type} {cell : ρ → Cell} (jt : List Nat) {tb : WX → TS} {tsu : Addr → Value → Option Addr → TS} {i : Nat} {cv : Value} {Wout : WX} {kn p : XC → Bool} {m : M ρ} {h : PX → M ρ} (hE : Y.E = WE Wout) (hi : ∃ c0, Γ[i]? = some c0) (hj : ∀ j ∈ jt, j ∈ js) (hij : i ∈ js)
    (hex : ∀ c, kn c = true → exmOne Y.K (.ref (tx c)) cv = some (p c))
    (hb : ∀ (W : WX) (kb : Exn → List Cell → Prop), Zm tx ⟨Y.g, WE W, kb⟩ jt (tb W) Γ (KF cell) m)
    (hs : ∀ px a d, kn px.cls = true → p px.cls = true → Zm tx Y js (tsu a (.ref (tx px.cls)) d) ((wipeC Γ jt).set i (.val (dExn a d) (px.x tx))) (KF cell) (h px)) :
    Zm tx Y js (tSeq (tTry Y.K cv i tb tsu Wout) tNext) Γ (KF cell) (M.tryK kn p m h) := zm_try jt hE hi hj hij hex hb hs
end G
end

noncomputable section
/-! M5: more rules: lists joined and repeated, list(range), pop(i), insert, sum, None. -/
namespace L2
open PySem PySem.Spec PyProof.Rows
section
variable {X : Cx}
/-- xs + ys, lists that are read -/
def rCatR : R2 := fun x y H Q => ∃ l b xs zs, x = .ref l ∧ y = .ref b ∧ Rd H l (.lst xs) ∧ Rd H b (.lst zs) ∧ xs.length + zs.length ≤ sizeLine ∧ ∀ p, H p = none → Q (.ref p) (upd H p (.lst (xs ++ zs)))
theorem op_catR : OpR X (binaryOp .Add) rCatR := by
  intro pins s σ H x y v u Q I rx ry h
  obtain ⟨l, b, xs, zs, rfl, rfl, hH, hB, hz, q⟩ := h
  cases rx
  cases ry
  obtain ⟨z, its, n, r, e⟩ := hH.ok I.hok
  obtain ⟨z2, its2, n2, r2, e2⟩ := hB.ok I.hok
  have hl := r.length
  have hl2 := r2.length
  refine PySem.P.add_list e e2 ?_ (by rw [List.size_toArray, List.size_toArray]; omega)
  have ea : its.toArray ++ its2.toArray = (its ++ its2).toArray := by simp
  rw [ea]
  exact ⟨.ref _, _, I.lnew (t' := s.toks) (r.append r2) (by rw [List.length_append]; omega), rfl, q _ I.fresh⟩
/-- xs * n, a list that is read -/
def rRepR : R2 := fun x y H Q => ∃ l k xs, x = .ref l ∧ y = .int k ∧ Rd H l (.lst xs) ∧ -(2 ^ 63) ≤ k ∧ k < 2 ^ 63 ∧ xs.length * k.toNat ≤ sizeLine ∧
  ∀ p, H p = none → Q (.ref p) (upd H p (.lst (List.replicate k.toNat xs).flatten))
theorem op_repR : OpR X (binaryOp .Mult) rRepR := by
  intro pins s σ H x y v u Q I rx ry h
  obtain ⟨l, k, xs, rfl, rfl, hH, h1, h2, hz, q⟩ := h
  cases rx
  obtain ⟨t, rfl⟩ := ry
  obtain ⟨z, its, n, r, e⟩ := hH.ok I.hok
  have hl := r.length
  have hlen : its.toArray.size * k.toNat ≤ sizeLine := by rw [List.size_toArray, ← hl]; exact hz
  have hcap : ¬ its.toArray.size * k.toNat > (2 ^ 63 - 1) / 8 := by
    have : (sizeLine : Nat) ≤ (2 ^ 63 - 1) / 8 := by decide
    omega
  have hfit : ¬ (!Builtin.List.listFitsIndex k) = true := by
    rw [fitsIndex_both h1 h2]
    exact Bool.false_ne_true
  have hlong : ¬ Builtin.List.listTooLong (its.toArray.size * k.toNat) = true := by
    rw [notLongL hlen]
    exact Bool.false_ne_true
  have hnew : List.foldl (fun x1 x2 => x1 ++ x2) #[] (List.replicate (if its.toArray.isEmpty = true then 0 else k.toNat) its.toArray) = (List.replicate k.toNat its).flatten.toArray := by
    have f0 : ∀ m : Nat, List.foldl (fun x1 x2 => x1 ++ x2) #[] (List.replicate m its.toArray) = (List.replicate m its).flatten.toArray := fun m => by
      have := foldl_rep its m []
      rw [List.nil_append] at this
      exact this
    rw [f0]
    cases its with
    | nil => simp
    | cons a r' => rw [if_neg (by simp)]
  refine wpAny_binaryOp_repeat_ref (T := "list") (U := "int") (by decide) ⟨_, e, rfl⟩ (fun s' => typeIs_int s' k t) noFill_list_mul F.fills_int_mul F.slot_int_rmul repeat_list F.slot_int_index.lookup
    (call_meets F.slot_int_rmul (typeIs_int s k t) F.entry_int_rmul (F.args_int_rmul_2 _ _) (int___rmul___int_list k t l its.toArray n)
      ⟨e, rfl, ⟨_, e, rfl⟩, call_meets F.slot_list_mul ⟨_, e, rfl⟩ F.entry_list_mul (F.args_list_mul_2 _ _) (AutoListH.list___mul___list_int_3 l its.toArray n k t hfit hcap hlong) ⟨e, ?_⟩⟩)
  rw [hnew]
  exact ⟨.ref _, _, I.lnew (t' := s.toks) (r.rep k.toNat) (by rw [PyProof.Rows.lm_len_rep_flat, Nat.mul_comm]; exact hz), rfl, q _ I.fresh⟩
end
end L2
namespace G
open PySem PySem.Spec PyProof.Rows L2 PySem.W
theorem Reps.rep {α : Type} {d : Dat α} {C : GCtx} {F : Hp} {vs : List V} {xs : List α} (r : Reps d C F vs xs) : ∀ n, Reps d C F (List.replicate n vs).flatten (List.replicate n xs).flatten
  | 0 => trivial
  | n + 1 => by
    simp only [List.replicate_succ, List.flatten_cons]
    exact r.append (Reps.rep r n)
section
variable {tx : XC → Addr} {Y : YC} {Γ : List Cell} {te ta tb tc td tl t1 t2 : TE} {α β γ δ τ : Type} {d : Dat α} {d1 : Dat α} {d2 : Dat β} {d3 : Dat γ} {ts rest : TS} {js : List Nat} {K : Kt τ}
theorem w_ixQ {k : α → Prop} (h : W Y ta Γ (dSq (d := d)) fun xs => R Y tb Γ dInt fun i => ∃ x, atI xs.l i = some x ∧ k x) : W Y (tOp (rIx Y.K) ta tb) Γ d k := fun e F σ H s Q q => h e F σ H s _ fun v1 F1 H1 xs h1 g1 ⟨a, vs, e1, hs, r⟩ => h1 e F1 σ H1 (s.grow g1) _ fun v2 F2 H2 i ⟨x, hx, kx⟩ g2 r2 => by
  subst e1
  cases (show v2 = .int i from r2)
  obtain ⟨v, hv, rv⟩ := atI_rep r hx
  rcases hs with hs | hs
  · exact .inl ⟨a, vs, i, v, rfl, rfl, (g1.fh.trans g2.hh0).seq hs, hv, q _ F2 H2 x kx (g1.trans0 g2) (d.mono g2.ff rv)⟩
  · exact .inr (.inl ⟨a, vs, i, v, rfl, rfl, (hs.mono (g2.ff.trans g2.fh)).sq, hv, q _ F2 H2 x kx (g1.trans0 g2) (d.mono g2.ff rv)⟩)
theorem we_ixQ {m : M (Sq α)} {n : M Int} (h : We tx Y ta Γ (dSq (d := d)) m) (h2 : Re tx Y tb Γ dInt n) : We tx Y (tOp (rIx Y.K) ta tb) Γ d (m >>= fun xs => n >>= fun i => M.ix xs.l i) := we_l2 (f := fun (xs : Sq α) i => atI xs.l i) (fun k h => w_ixQ h) h h2
/-! lists joined, repeated -/
theorem o_cat {k : List α → Prop} (h : W Y ta Γ (dList (d := d)) fun xs => W Y tb Γ (dList (d := d)) fun ys => xs.length + ys.length ≤ PySem.sizeLine ∧ k (xs ++ ys)) : O Y (tOp rCatR ta tb) Γ (oList (d := d)) k := fun e F σ H s Q q => h e F σ H s _ fun v1 F1 H1 xs h1 g1 ⟨a, vs, e1, hs, r⟩ => h1 e F1 σ H1 (s.grow g1) _ fun v2 F2 H2 ys ⟨hl, ky⟩ g2 ⟨b, ws, e2, hs2, r2⟩ => by
  subst e1 e2
  refine ⟨a, b, vs, ws, rfl, rfl, Same.rd (g2.ff.trans g2.fh) hs, Same.rd g2.fh hs2, by rw [r.len, r2.len]; exact hl, fun p hp => ?_⟩
  obtain ⟨h3, h4⟩ := o_new (L := []) g2.base hp ((r.mono g2.ff).append r2)
  exact q _ F2 _ _ _ ky (by simpa using (g1.trans0 g2).trans h3) h4
theorem oe_cat {m n : M (List α)} (h : We tx Y ta Γ (dList (d := d)) m) (h2 : We tx Y tb Γ (dList (d := d)) n) : Oe tx Y (tOp rCatR ta tb) Γ (oList (d := d)) (m >>= fun xs => n >>= fun ys => M.cat xs ys) := fun nb xk =>
  o_cat (h.k nb xk fun xs e nb xk => h2.k nb xk fun ys e2 nb2 _ => ⟨M.asrt_nb nb2, by rw [e]; show (n >>= _) = _; rw [e2]; exact M.asrt_pos (M.asrt_nb nb2)⟩)
def M.rep {α : Type} (xs : List α) (k : Int) : M (List α) := M.asrt (-(2 ^ 63) ≤ k ∧ k < 2 ^ 63 ∧ xs.length * k.toNat ≤ PySem.sizeLine) (.ok (List.replicate k.toNat xs).flatten)
theorem o_rep {k : List α → Prop} (h : W Y ta Γ (dList (d := d)) fun xs => R Y tb Γ dInt fun n => (-(2 ^ 63) ≤ n ∧ n < 2 ^ 63 ∧ xs.length * n.toNat ≤ PySem.sizeLine) ∧ k (List.replicate n.toNat xs).flatten) : O Y (tOp rRepR ta tb) Γ (oList (d := d)) k := fun e F σ H s Q q => h e F σ H s _ fun v1 F1 H1 xs h1 g1 ⟨a, vs, e1, hs, r⟩ => h1 e F1 σ H1 (s.grow g1) _ fun v2 F2 H2 n ⟨⟨l1, l2, l3⟩, ky⟩ g2 r2 => by
  subst e1
  cases (show v2 = .int n from r2)
  refine ⟨a, n, vs, rfl, rfl, Same.rd (g2.ff.trans g2.fh) hs, l1, l2, by rw [r.len]; exact l3, fun p hp => ?_⟩
  obtain ⟨h3, h4⟩ := o_new (L := []) g2.base hp ((r.mono g2.ff).rep n.toNat)
  exact q _ F2 _ _ _ ky (by simpa using (g1.trans0 g2).trans h3) h4
theorem oe_rep {m : M (List α)} {n : M Int} (h : We tx Y ta Γ (dList (d := d)) m) (h2 : Re tx Y tb Γ dInt n) : Oe tx Y (tOp rRepR ta tb) Γ (oList (d := d)) (m >>= fun xs => n >>= fun k => M.rep xs k) := fun nb xk =>
  o_rep (h.k nb xk fun xs e nb xk => h2.k nb xk fun k e2 nb2 _ => ⟨M.asrt_nb nb2, by rw [e]; show (n >>= _) = _; rw [e2]; exact M.asrt_pos (M.asrt_nb nb2)⟩)
/-! list(range(..)) -/
/-! sum, all, min, max -/
def minL (xs : List Int) : Int := xs.foldl (fun a b => if b < a then b else a) (xs.headD 0)
def M.minM (xs : List Int) : M Int := M.asrt (0 < xs.length) (.ok (minL xs))
theorem foldmin (xs : List Int) : ∀ a : Int, (xs.foldl (fun a b => if b < a then b else a) a = a ∨ xs.foldl (fun a b => if b < a then b else a) a ∈ xs) ∧ xs.foldl (fun a b => if b < a then b else a) a ≤ a ∧ ∀ y ∈ xs, xs.foldl (fun a b => if b < a then b else a) a ≤ y := by
  induction xs with
  | nil => intro a; exact ⟨.inl rfl, Int.le_refl a, fun y hy => nomatch hy⟩
  | cons x xs ih =>
    intro a
    obtain ⟨h1, h2, h3⟩ := ih (if x < a then x else a)
    simp only [List.foldl_cons, List.mem_cons]
    refine ⟨?_, ?_, ?_⟩
    · rcases h1 with h1 | h1
      · rw [h1]; split <;> simp
      · exact .inr (.inr h1)
    · exact Int.le_trans h2 (by split <;> omega)
    · rintro y (rfl | hy)
      · exact Int.le_trans h2 (by split <;> omega)
      · exact h3 y hy
theorem minL_spec {xs : List Int} (h : 0 < xs.length) : minL xs ∈ xs ∧ ∀ y ∈ xs, minL xs ≤ y := by
  cases xs with
  | nil => cases h
  | cons x xs =>
    obtain ⟨h1, h2, h3⟩ := foldmin (x :: xs) x
    unfold minL
    exact ⟨h1.elim (fun z => by rw [show (x :: xs).headD 0 = x from rfl, z]; simp) id, h3⟩
/-! None -/
class NN (α : Type) [d : Dat α] : Prop where
  nn : ∀ {C : GCtx} {F : Hp} {v : V} {x : α}, d.rep C F v x → v ≠ .non
instance : NN Int := ⟨fun {C F v x} h z => by subst z; cases (show V.non = .int x from h)⟩
instance : NN Bool := ⟨fun {C F v x} h z => by subst z; cases (show V.non = .bl x from h)⟩
instance : NN Str := ⟨fun {C F v x} h z => by subst z; cases (show V.non = .str x from h)⟩
instance {α : Type} [d : Dat α] : NN (List α) := ⟨fun ⟨a, vs, e, _⟩ z => by subst z; cases e⟩
instance {α : Type} [d : Dat α] : NN (Tup α) := ⟨fun ⟨a, vs, e, _⟩ z => by subst z; cases e⟩
instance {α β : Type} [d : Dat α] [d2 : Dat β] : NN (α × β) := ⟨fun ⟨a, v1, v2, e, _⟩ z => by subst z; cases e⟩
instance {α β γ : Type} [d : Dat α] [d2 : Dat β] [d3 : Dat γ] : NN (T3 α β γ) := ⟨fun ⟨a, v1, v2, v3, e, _⟩ z => by subst z; cases e⟩
instance {α β γ δ : Type} [d : Dat α] [d2 : Dat β] [d3 : Dat γ] [d4 : Dat δ] : NN (T4 α β γ δ) := ⟨fun ⟨a, v1, v2, v3, v4, e, _⟩ z => by subst z; cases e⟩
/-! pop(i), insert -/
def M.insert {α : Type} (xs : List α) (mi : M Int) (m : M α) : M (List α) := mi >>= fun n => m >>= fun y => M.asrt (xs.length < PySem.sizeLine ∧ 0 ≤ n ∧ n < 2 ^ 63) (.ok (xs.take n.toNat ++ [y] ++ xs.drop n.toNat))
/-! a, b = x, y -/
end
end G
end

noncomputable section
/-! M6: instances whose later attributes are dicts (filled within __init__), tuples of the top. -/
namespace G
open PySem PySem.Spec PyProof.Rows L2 PySem.W
structure Ob3 (α β γ : Type) where
  a : α
  b : β
  c : γ
  deriving DecidableEq
structure Ob4 (α β γ δ : Type) where
  a : α
  b : β
  c : γ
  d : δ
  deriving DecidableEq
theorem Wk.perm {e : En} {F : Hp} {L L' : LO} {H : Hp} (a : Wk e F L H) (p : L.Perm L') : Wk e F L' H :=
  a.sub (fun x hx => p.mem_iff.mpr hx) ((List.Perm.nodup_iff (p.map _)).mp a.nd)
section
variable {α β γ δ : Type} [d1 : Dat α] [d2 : Dat β] [d3 : Dat γ] [d4 : Dat δ] (C0 : Addr) (f1 f2 f3 f4 : Str)
@[reducible] def dOb3 : Dat (Ob3 α β γ) := ⟨fun C F v x => ∃ p dx v1 v2 v3, v = .ref p ∧ F p = some (.ins C0 dx [(f1, v1), (f2, v2), (f3, v3)]) ∧ d1.rep C F v1 x.a ∧ d2.rep C F v2 x.b ∧ d3.rep C F v3 x.c,
  fun s ⟨p, dx, v1, v2, v3, e, h, r1, r2, r3⟩ => ⟨p, dx, v1, v2, v3, e, s _ _ h, d1.mono s r1, d2.mono s r2, d3.mono s r3⟩⟩
@[reducible] def dOb4 : Dat (Ob4 α β γ δ) := ⟨fun C F v x => ∃ p dx v1 v2 v3 v4, v = .ref p ∧ F p = some (.ins C0 dx [(f1, v1), (f2, v2), (f3, v3), (f4, v4)]) ∧ d1.rep C F v1 x.a ∧ d2.rep C F v2 x.b ∧ d3.rep C F v3 x.c ∧ d4.rep C F v4 x.d,
  fun s ⟨p, dx, v1, v2, v3, v4, e, h, r1, r2, r3, r4⟩ => ⟨p, dx, v1, v2, v3, v4, e, s _ _ h, d1.mono s r1, d2.mono s r2, d3.mono s r3, d4.mono s r4⟩⟩
@[reducible] def oOb3 (od3 : @OD γ d3) : @OD (Ob3 α β γ) (dOb3 C0 f1 f2 f3) := @OD.mk (Ob3 α β γ) (dOb3 C0 f1 f2 f3)
  (fun C F v x L => ∃ p dx v1 v2 v3 L3, v = .ref p ∧ L = (p, .ins C0 dx [(f1, v1), (f2, v2), (f3, v3)]) :: L3 ∧ d1.rep C F v1 x.a ∧ d2.rep C F v2 x.b ∧ od3.orep C F v3 x.c L3)
  (fun s ⟨p, dx, v1, v2, v3, L3, e, h, r1, r2, r3⟩ => ⟨p, dx, v1, v2, v3, L3, e, h, d1.mono s r1, d2.mono s r2, od3.omono s r3⟩)
  (fun ⟨p, dx, v1, v2, v3, L3, e, h, r1, r2, r3⟩ s k => ⟨p, dx, v1, v2, v3, e, k (p, .ins C0 dx [(f1, v1), (f2, v2), (f3, v3)]) (by rw [h]; exact List.mem_cons_self), d1.mono s r1, d2.mono s r2, od3.view r3 s fun q hq => k q (by rw [h]; exact List.mem_cons_of_mem _ hq)⟩)
@[reducible] def oOb4 (od3 : @OD γ d3) (od4 : @OD δ d4) : @OD (Ob4 α β γ δ) (dOb4 C0 f1 f2 f3 f4) := @OD.mk (Ob4 α β γ δ) (dOb4 C0 f1 f2 f3 f4)
  (fun C F v x L => ∃ p dx v1 v2 v3 v4 L3 L4, v = .ref p ∧ L = (p, .ins C0 dx [(f1, v1), (f2, v2), (f3, v3), (f4, v4)]) :: (L3 ++ L4) ∧ d1.rep C F v1 x.a ∧ d2.rep C F v2 x.b ∧ od3.orep C F v3 x.c L3 ∧ od4.orep C F v4 x.d L4)
  (fun s ⟨p, dx, v1, v2, v3, v4, L3, L4, e, h, r1, r2, r3, r4⟩ => ⟨p, dx, v1, v2, v3, v4, L3, L4, e, h, d1.mono s r1, d2.mono s r2, od3.omono s r3, od4.omono s r4⟩)
  (fun ⟨p, dx, v1, v2, v3, v4, L3, L4, e, h, r1, r2, r3, r4⟩ s k => ⟨p, dx, v1, v2, v3, v4, e, k (p, .ins C0 dx [(f1, v1), (f2, v2), (f3, v3), (f4, v4)]) (by rw [h]; exact List.mem_cons_self), d1.mono s r1, d2.mono s r2,
    od3.view r3 s fun q hq => k q (by rw [h]; exact List.mem_cons_of_mem _ (List.mem_append_left _ hq)), od4.view r4 s fun q hq => k q (by rw [h]; exact List.mem_cons_of_mem _ (List.mem_append_right _ hq))⟩)
end
section
variable {α β γ δ : Type} [d1 : Dat α] [d2 : Dat β] [d3 : Dat γ] [d4 : Dat δ] {C0 : Addr} {f1 f2 f3 f4 : Str}
end
theorem set_same {σ : L2.St} {i : Nat} {v : V} (e1 : σ[i]? = some (some v)) : σ.set i (some v) = σ := by
  apply List.ext_getElem?
  intro j
  by_cases hj : i = j
  · subst hj
    obtain ⟨hlt, hv⟩ := List.getElem?_eq_some_iff.mp e1
    rw [List.getElem?_set_self hlt, e1]
  · rw [List.getElem?_set_ne hj]
section
variable {Y : YC} {Γ : List Cell} {k : Ks} {te tk tv : TE} {α β γ δ ε : Type} {d1 : Dat α} {d2 : Dat β} {d3 : Dat γ} {d4 : Dat δ} {dv : Dat ε} {C0 : Addr} {f f1 f2 f3 : Str}
end
section
variable {tx : XC → Addr} {Y : YC} {Γ : List Cell} {te tk tv : TE} {α β γ δ ε τ : Type} {d1 : Dat α} {d2 : Dat β} {d3 : Dat γ} {d4 : Dat δ} {dv : Dat ε} {rest : TS} {js : List Nat} {K : Kt τ} {C0 : Addr} {f f1 f2 f3 : Str}
end
/-! the class Wiring -/
abbrev WiringM := Ob4 (Tup (Int × Int)) (Tup (T3 Str Int Int)) (DI Int) (DI Int)
section
variable (A : CA3)
@[reducible] def dLinks : Dat (Tup (Int × Int)) := dTup (d := dPair (d1 := dInt) (d2 := dInt))
@[reducible] def dNodes : Dat (Tup (T3 Str Int Int)) := dTup (d := dT3 (d1 := dStr) (d2 := dInt) (d3 := dInt))
@[reducible] def dWiring : Dat WiringM := dOb4 (d1 := dTup (d := dPair (d1 := dInt) (d2 := dInt))) (d2 := dTup (d := dT3 (d1 := dStr) (d2 := dInt) (d3 := dInt))) (d3 := dDI (d := dInt)) (d4 := dDI (d := dInt)) (A.ob .Wiring) "links" "nodes" "_parents" "_owners"
@[reducible] def oWiring : @OD WiringM (dWiring A) := oOb4 (d1 := dTup (d := dPair (d1 := dInt) (d2 := dInt))) (d2 := dTup (d := dT3 (d1 := dStr) (d2 := dInt) (d3 := dInt))) (d3 := dDI (d := dInt)) (d4 := dDI (d := dInt)) (A.ob .Wiring) "links" "nodes" "_parents" "_owners" (oDI (d := dInt)) (oDI (d := dInt))
end
/-! tuples of the top -/
section
variable {tx : XC → Addr} {Y : YC} {Γ : List Cell} {te ta tb : TE} {α β : Type} {d : Dat α}
end
end G
end

noncomputable section
/-! M7: properties, pairs joined. -/
namespace L2
open PySem PySem.Spec PyProof.Rows
end L2
namespace G
open PySem PySem.Spec PyProof.Rows L2 PySem.W
section
variable {tx : XC → Addr} {Y : YC} {Γ : List Cell} {ta tb : TE} {α β γ δ : Type} {d : Dat α} {d1 : Dat α} {d2 : Dat β} {d3 : Dat γ} {d4 : Dat δ} {sp : Sp} {C0 : Addr} {ns : List Str}
theorem w_prop {kx : β → Prop} (hI : IsI d C0 ns) (h : W Y ta Γ d fun x => SpX Y.g sp [.val d x] (fun c => ∃ r, c = .val d2 r ∧ kx r) fun _ => False) : W Y (tProp C0 sp [] EF ta) Γ d2 kx := fun e F σ H s Q q => h e F σ H s _ fun v F1 H1 x h1 g1 r1 => by
  obtain ⟨p, dx, fs, e1, e2, _⟩ := hI.ins r1
  subst e1
  refine ⟨p, dx, fs, rfl, g1.fh _ _ e2, h1 [.ref p] H1 Q _ ⟨F1, g1.base, .cons (L := []) ⟨rfl, _, rfl, r1⟩ .nil, fun v' F' H' c L ⟨r, ec, kr⟩ g3 rc => ?_, fun _ _ _ _ z => z.elim⟩⟩
  subst ec
  obtain ⟨e4, v3, e5, rv⟩ := rc
  subst e4
  cases (Option.some.inj e5)
  exact q v' F' H' r kr (g1.trans0 g3) rv
theorem we_prop {f : α → M β} {m : M α} (hs : ∀ x, (f x).nb → SpX Y.g sp [.val d x] (fun c => ∃ r, c = .val d2 r ∧ f x = .ok r) fun x' => ∃ px, f x = .exc px ∧ x' = px.x tx) (hI : IsI d C0 ns) (h : We tx Y ta Γ d m) : We tx Y (tProp C0 sp [] EF ta) Γ d2 (m >>= fun x => M.calm (f x)) := fun nb xk =>
  w_prop hI (h.k nb xk fun x e1 nb xk => fun vs H Q E fx => by
    obtain ⟨b, eb⟩ := M.calm_nb nb
    refine hs x (by rw [eb]; exact fun z => nomatch z) vs H Q E (fx.mono (fun c ⟨r, e, q⟩ => ⟨r, e, ?_⟩) fun x' ⟨px, e, q⟩ => by rw [eb] at e; cases e)
    rw [eb] at q
    cases q
    rw [e1]; show M.calm (f x) = _; rw [eb]; rfl)
end
end G
end

noncomputable section
/-! M8: setdefault, d[k].append(y), dict comprehensions. -/
namespace G
open PySem PySem.Spec PyProof.Rows L2 PySem.W
section
variable {Y : YC} {Γ : List Cell} {k : Ks} {ta tk tv te : TE} {α β : Type} {d : Dat α}
end
section
variable {tx : XC → Addr} {Y : YC} {Γ : List Cell} {ta tk tv te tl : TE} {tt : TT} {g : TG} {α β τ : Type} {d : Dat α} {d2 : Dat β} {rest : TS} {js vs : List Nat} {K : Kt τ}
end
end G
end

noncomputable section
/-! M9: plain data of any shape. -/
namespace G
open PySem PySem.Spec PyProof.Rows L2 PySem.W
mutual
def DU (C : GCtx) (F : Hp) : PyData → V → Prop
  | .none, v => v = .non
  | .bool b, v => v = .bl b
  | .int i, v => v = .int i
  | .str s, v => v = .str s
  | .list ds, v => ∃ a vs, v = .ref a ∧ Rd F a (.lst vs) ∧ DUs C F ds vs
  | .tuple ds, v => ∃ a vs, v = .ref a ∧ TpA C.K F a vs ∧ DUs C F ds vs
  | .dict _, _ => False
def DUs (C : GCtx) (F : Hp) : List PyData → List V → Prop
  | [], [] => True
  | d :: ds, v :: vs => DU C F d v ∧ DUs C F ds vs
  | [], _ :: _ => False
  | _ :: _, [] => False
end
mutual
theorem DU.mono {C : GCtx} {F F' : Hp} (s : Same F F') : ∀ (x : PyData) (v : V), DU C F x v → DU C F' x v
  | .none, _, h => h
  | .bool _, _, h => h
  | .int _, _, h => h
  | .str _, _, h => h
  | .list ds, _, ⟨a, vs, e, h, r⟩ => ⟨a, vs, e, h.imp (s a _) fun ⟨o, e⟩ => ⟨o, s a _ e⟩, DUs.mono s ds vs r⟩
  | .tuple ds, _, ⟨a, vs, e, h, r⟩ => ⟨a, vs, e, h.mono s, DUs.mono s ds vs r⟩
  | .dict _, _, h => h.elim
theorem DUs.mono {C : GCtx} {F F' : Hp} (s : Same F F') : ∀ (xs : List PyData) (vs : List V), DUs C F xs vs → DUs C F' xs vs
  | [], [], h => h
  | d :: ds, v :: vs, h => ⟨DU.mono s d v h.1, DUs.mono s ds vs h.2⟩
  | [], _ :: _, h => h.elim
  | _ :: _, [], h => h.elim
end
mutual
theorem DU.dp {C : GCtx} {F : Hp} : ∀ (x : PyData) (v : V), DU C F x v → Dp C.K F v x
  | .none, _, h => by cases (show _ = _ from h); exact .non
  | .bool _, _, h => by cases (show _ = _ from h); exact .bl _
  | .int _, _, h => by cases (show _ = _ from h); exact .int _
  | .str _, _, h => by cases (show _ = _ from h); exact .str _
  | .list ds, _, ⟨a, vs, e, h, r⟩ => by subst e; exact .lst (.inl h) (DUs.dp ds vs r)
  | .tuple ds, _, ⟨a, vs, e, h, r⟩ => by subst e; exact .tup h.sq (DUs.dp ds vs r)
  | .dict _, _, h => h.elim
theorem DUs.dp {C : GCtx} {F : Hp} : ∀ (xs : List PyData) (vs : List V), DUs C F xs vs → DpAll C.K F vs xs
  | [], [], _ => .nil
  | d :: ds, v :: vs, h => .cons (DU.dp d v h.1) (DUs.dp ds vs h.2)
  | [], _ :: _, h => h.elim
  | _ :: _, [], h => h.elim
end
mutual
theorem DU.pl {C : GCtx} {F : Hp} : ∀ (x : PyData) (v : V), DU C F x v → x.plain = true
  | .none, _, _ => rfl
  | .bool _, _, _ => rfl
  | .int _, _, _ => rfl
  | .str _, _, _ => rfl
  | .list ds, _, ⟨a, vs, e, h, r⟩ => by simp only [PyData.plain]; exact DUs.pl ds vs r
  | .tuple ds, _, ⟨a, vs, e, h, r⟩ => by simp only [PyData.plain]; exact DUs.pl ds vs r
  | .dict _, _, h => h.elim
theorem DUs.pl {C : GCtx} {F : Hp} : ∀ (xs : List PyData) (vs : List V), DUs C F xs vs → PyData.plainAll xs = true
  | [], _, _ => rfl
  | d :: ds, v :: vs, h => by simp only [PyData.plainAll, DU.pl d v h.1, DUs.pl ds vs h.2, Bool.and_self]
  | _ :: _, [], h => h.elim
end
abbrev U := PyData
@[reducible] def dU : Dat U := ⟨fun C F v x => DU C F x v, fun s h => DU.mono s _ _ h⟩
/-- data that are plain data -/
class UD (α : Type) [d : Dat α] where
  toU : α → U
  du : ∀ {C : GCtx} {F : Hp} {v : V} {x : α}, d.rep C F v x → DU C F (toU x) v
instance udInt : UD Int := ⟨.int, fun h => h⟩
instance udBool : UD Bool := ⟨.bool, fun h => h⟩
instance udStr : UD Str := ⟨.str, fun h => h⟩
instance udUnit : UD Unit := ⟨fun _ => .none, fun h => h⟩
theorem dus_of {α : Type} {d : Dat α} [u : @UD α d] {C : GCtx} {F : Hp} : ∀ {vs : List V} {xs : List α}, Reps d C F vs xs → DUs C F (xs.map u.toU) vs
  | [], [], _ => trivial
  | _ :: _, _ :: _, h => ⟨u.du h.1, dus_of h.2⟩
  | [], _ :: _, h => h.elim
  | _ :: _, [], h => h.elim
instance udList {α : Type} {d : Dat α} [u : @UD α d] : @UD (List α) dList := ⟨fun xs => .list (xs.map u.toU), fun ⟨a, vs, e, h, r⟩ => ⟨a, vs, e, h, dus_of r⟩⟩
instance udTup {α : Type} {d : Dat α} [u : @UD α d] : @UD (Tup α) dTup := ⟨fun xs => .tuple (xs.l.map u.toU), fun ⟨a, vs, e, h, r⟩ => ⟨a, vs, e, h, dus_of r⟩⟩
instance udPair {α β : Type} {d1 : Dat α} {d2 : Dat β} [u1 : @UD α d1] [u2 : @UD β d2] : @UD (α × β) dPair := ⟨fun x => .tuple [u1.toU x.1, u2.toU x.2], fun ⟨a, v1, v2, e, h, r1, r2⟩ => ⟨a, _, e, h, u1.du r1, u2.du r2, trivial⟩⟩
instance udT3 {α β γ : Type} {d1 : Dat α} {d2 : Dat β} {d3 : Dat γ} [u1 : @UD α d1] [u2 : @UD β d2] [u3 : @UD γ d3] : @UD (T3 α β γ) dT3 := ⟨fun x => .tuple [u1.toU x.a, u2.toU x.b, u3.toU x.c], fun ⟨a, v1, v2, v3, e, h, r1, r2, r3⟩ => ⟨a, _, e, h, u1.du r1, u2.du r2, u3.du r3, trivial⟩⟩
instance udT4 {α β γ δ : Type} {d1 : Dat α} {d2 : Dat β} {d3 : Dat γ} {d4 : Dat δ} [u1 : @UD α d1] [u2 : @UD β d2] [u3 : @UD γ d3] [u4 : @UD δ d4] : @UD (T4 α β γ δ) dT4 := ⟨fun x => .tuple [u1.toU x.a, u2.toU x.b, u3.toU x.c, u4.toU x.d], fun ⟨a, v1, v2, v3, v4, e, h, r1, r2, r3, r4⟩ => ⟨a, _, e, h, u1.du r1, u2.du r2, u3.du r3, u4.du r4, trivial⟩⟩
def tyU : U → String
  | .none => "NoneType" | .bool _ => "bool" | .int _ => "int" | .str _ => "str" | .list _ => "list" | .tuple _ => "tuple" | .dict _ => "dict"
theorem DU.ty {C : GCtx} {F : Hp} {v : V} : ∀ {x : U}, DU C F x v → TyX C.K F v (.type (tyU x))
  | .none, h => by cases (show v = _ from h); exact .base .non
  | .bool _, h => by cases (show v = _ from h); exact .base (.bl _)
  | .int _, h => by cases (show v = _ from h); exact .base (.int _)
  | .str _, h => by cases (show v = _ from h); exact .base (.str _)
  | .list _, ⟨a, vs, e, h, _⟩ => by subst e; exact ty_sql (.inl h)
  | .tuple _, ⟨a, vs, e, h, _⟩ => by subst e; exact ty_tpa h
  | .dict _, h => h.elim
def isNoneU : U → Bool
  | .none => true
  | _ => false
theorem DU.non {C : GCtx} {F : Hp} {v : V} : ∀ {x : U}, DU C F x v → decide (v = .non) = isNoneU x
  | .none, h => by cases (show v = _ from h); rfl
  | .bool _, h => by cases (show v = _ from h); rfl
  | .int _, h => by cases (show v = _ from h); rfl
  | .str _, h => by cases (show v = _ from h); rfl
  | .list _, ⟨a, vs, e, h, _⟩ => by subst e; rfl
  | .tuple _, ⟨a, vs, e, h, _⟩ => by subst e; rfl
  | .dict _, h => h.elim
section
variable {tx : XC → Addr} {Y : YC} {Γ : List Cell} {te ta tb : TE} {α : Type} {d : Dat α}
end
end G
end

noncomputable section
/-! M10: pairs that own their parts. -/
namespace G
open PySem PySem.Spec PyProof.Rows L2 PySem.W
@[reducible] def oPair {α β : Type} {d1 : Dat α} {d2 : Dat β} (od1 : @OD α d1) (od2 : @OD β d2) : @OD (α × β) (dPair (d1 := d1) (d2 := d2)) := @OD.mk (α × β) (dPair (d1 := d1) (d2 := d2))
  (fun C F v x L => ∃ a v1 v2 L1 L2, v = .ref a ∧ L = L1 ++ L2 ∧ TpA C.K F a [v1, v2] ∧ od1.orep C F v1 x.1 L1 ∧ od2.orep C F v2 x.2 L2)
  (fun s ⟨a, v1, v2, L1, L2, e, h, t, r1, r2⟩ => ⟨a, v1, v2, L1, L2, e, h, t.mono s, od1.omono s r1, od2.omono s r2⟩)
  (fun ⟨a, v1, v2, L1, L2, e, h, t, r1, r2⟩ s k => ⟨a, v1, v2, e, t.mono s, od1.view r1 s fun p hp => k p (by rw [h]; exact List.mem_append_left _ hp), od2.view r2 s fun p hp => k p (by rw [h]; exact List.mem_append_right _ hp)⟩)
theorem permR {α : Type} {L1 Li L2 M1 Mi M2 : List α} (e : L1 ++ [] ++ L2 = M1 ++ Mi ++ M2) : (L1 ++ Li ++ L2).Perm ((Li ++ Mi) ++ (M1 ++ [] ++ M2)) := by
  have e' : L1 ++ L2 = M1 ++ Mi ++ M2 := by simpa using e
  have h1 : (L1 ++ Li ++ L2).Perm (Li ++ (L1 ++ L2)) := by
    rw [List.append_assoc]
    have := (List.perm_append_comm (l₁ := L1) (l₂ := Li)).append_right L2
    simpa [List.append_assoc] using this
  refine h1.trans ?_
  rw [e']
  have h2 : (M1 ++ Mi ++ M2).Perm (Mi ++ (M1 ++ M2)) := by
    have := (List.perm_append_comm (l₁ := M1) (l₂ := Mi)).append_right M2
    simpa [List.append_assoc] using this
  simpa [List.append_assoc] using h2.append_left Li
section
variable {Y : YC} {Γ : List Cell} {k : Ks} {te : TE} {α β : Type} {d1 : Dat α} {d2 : Dat β}
theorem z_retP {od1 : @OD α d1} {od2 : @OD β d2} {i j : Nat} {x : α} {y : β} (hij : i ≠ j) (hi : Γ[i]? = some (.own d1 od1 none x)) (hj : Γ[j]? = some (.own d2 od2 none y))
    (h : k.rt (.own (dPair (d1 := d1) (d2 := d2)) (oPair od1 od2) none (x, y)) ((Γ.set i .no).set j .no)) : Z Y (tRet (tTup (tCons (tVar i) (tCons (tVar j) tNil)))) Γ k := fun e F σ H D hM s c => by
  obtain ⟨hx, L, k0, sl⟩ := id s
  obtain ⟨o, L1, Li, L2, e1, e2, ⟨v, rfl, _, r⟩, f⟩ := sl.get hi
  subst e2
  have sl2 := f F (some v) .no [] (Same.refl F) rfl
  obtain ⟨o', M1, Mi, M2, e3, e4, ⟨w, rfl, _, r2⟩, f2⟩ := sl2.get (i := j) (by rw [List.getElem?_set_ne hij]; exact hj)
  have sl3 := f2 F (some w) .no [] (Same.refl F) rfl
  rw [List.getElem?_set_ne hij] at e3
  refine ⟨v, e1, w, e3, show (2 : Nat) ≤ PySem.sizeLine by decide, fun p hp => ?_⟩
  have g := Gr.lay (o := .tup [v, w]) s.base hp
  have kw := k0.trans g
  exact c.rt _ _ _ _ (.ref p) _ (Li ++ Mi) (M1 ++ [] ++ M2) h (by
    rw [List.nil_append] at kw
    exact kw.perm (permR e4)) ⟨.ref p, rfl, fun _ z => (nomatch z), p, v, w, Li, Mi, rfl, rfl, .inl upd_same, od1.omono g.ff r, od2.omono g.ff r2⟩ (sl3.mono g.ff)
end
section
variable {tx : XC → Addr} {Y : YC} {Γ : List Cell} {te : TE} {α β τ : Type} {d1 : Dat α} {d2 : Dat β} {rest : TS} {js : List Nat} {K : Kt τ}
theorem zm_retP {od1 : @OD α d1} {od2 : @OD β d2} {cell : α × β → Cell} {i j : Nat} {x : α} {y : β} (hij : (i == j) = false) (hi : Γ[i]? = some (.own d1 od1 none x)) (hj : Γ[j]? = some (.own d2 od2 none y)) (hc : cell = fun r => .own (dPair (d1 := d1) (d2 := d2)) (oPair od1 od2) none r := by rfl) :
    Zm tx Y js (tSeq (tRet (tTup (tCons (tVar i) (tCons (tVar j) tNil)))) rest) Γ (KF cell) (.ok (x, y)) := fun nb xk => by
  subst hc
  exact z_retP (k := (KF fun r => Cell.own (dPair (d1 := d1) (d2 := d2)) (oPair od1 od2) none r).ks (M.ok (x, y))) (by simpa using hij) hi hj ⟨(x, y), rfl, rfl⟩
end
end G
end

noncomputable section
/-! M11: constants by their class, [*xs, y]. -/
namespace L2
open PySem PySem.Spec PyProof.Rows ClX StX
section
variable {X : Cx} (K : PySem.W.Frag)
end
end L2
namespace G
open PySem PySem.Spec PyProof.Rows L2 PySem.W ClX StX
section
variable {tx : XC → Addr} {Y : YC} {Γ : List Cell} {te ta : TE} {α : Type} {d : Dat α}
end
section
variable {tx : XC → Addr} {Y : YC} {Γ : List Cell} {ta tb : TE} {α : Type} {d : Dat α}
end
end G
end

noncomputable section
/-! M12: enumerate within comprehensions. -/
namespace G
open PySem PySem.Spec PyProof.Rows L2 PySem.W
section
variable {tx : XC → Addr} {Y : YC} {Γ : List Cell} {te ta tb tl : TE} {t u tt : TT} {α β : Type} {d : Dat α} {d2 : Dat β} {g : TG}
end
theorem wipeC_get (Γ : List Cell) : ∀ (js : List Nat) (i : Nat), i < Γ.length → i ∈ js → (wipeC Γ js)[i]? = some .no
  | [], _, _, h => nomatch h
  | j :: js, i, hl, h => by
    unfold wipeC
    by_cases e : j = i
    · subst e
      rw [List.getElem?_set_self (by rw [wipeC_len]; exact hl)]
    · rw [List.getElem?_set_ne e]
      exact wipeC_get Γ js i hl ((List.mem_cons.mp h).resolve_left fun z => e z.symm)
/-- where all slots are wiped nothing is left to compare -/
theorem wlen (n : Nat) {Γ Γ' : List Cell} {js : List Nat} (h1 : Γ.length = n) (h2 : Γ'.length = n) (hj : (List.range n).all (fun i => js.contains i) = true) : wipeC Γ js = wipeC Γ' js := by
  apply List.ext_getElem?
  intro i
  by_cases hi : i < n
  · have hm : i ∈ js := by
      have := List.all_eq_true.mp hj i (List.mem_range.mpr hi)
      simpa using this
    rw [wipeC_get Γ js i (by omega) hm, wipeC_get Γ' js i (by omega) hm]
  · rw [List.getElem?_eq_none (by rw [wipeC_len]; omega), List.getElem?_eq_none (by rw [wipeC_len]; omega)]
end G
end

noncomputable section
/-! M13: defs that change what is passed to them. -/
namespace G
open PySem PySem.Spec PyProof.Rows L2 PySem.W
/-- a def that changes the arguments at the places ms -/
def FnM (C : GCtx) {α : Type} (dr : Dat α) (Γ : List Cell) (ms : List Nat) (post : α → List Cell → Prop) (vs : List V) (H : Hp) (Q : VK) (E : XK) : Prop :=
  ∃ F L H0, Wk ⟨F, H0, []⟩ F L H ∧ Slots C F (vs.map some) Γ L ∧ ∀ v F' H' r Γm L2, post r Γm → Wk ⟨F, H0, []⟩ F' L2 H' → dr.rep C F' v r → Slots C F' (ms.map fun j => vs[j]?) Γm L2 → Q v H'
theorem FnM.len {C : GCtx} {α : Type} {dr : Dat α} {Γ : List Cell} {ms : List Nat} {post : α → List Cell → Prop} {vs : List V} {H : Hp} {Q : VK} {E : XK} (h : FnM C dr Γ ms post vs H Q E) : vs.length = Γ.length := by
  obtain ⟨F, L, H0, _, s, _⟩ := h
  simpa using s.len
/-! arguments of which some are lent: (slot, cell) -/
abbrev AC := Cell ⊕ (Nat × Cell)
def AC.cell : AC → Cell
  | .inl c => c
  | .inr p => p.2
def MArgs (C : GCtx) (F : Hp) (σ : _root_.L2.St) : List V → List AC → Prop
  | [], [] => True
  | v :: vs, .inl c :: as => CellOk C F (some v) c [] ∧ MArgs C F σ vs as
  | v :: vs, .inr p :: as => σ[p.1]? = some (some v) ∧ MArgs C F σ vs as
  | [], _ :: _ => False
  | _ :: _, [] => False
theorem MArgs.mono {C : GCtx} {F F' : Hp} {σ : _root_.L2.St} (s : Same F F') : ∀ {vs : List V} {as : List AC}, MArgs C F σ vs as → MArgs C F' σ vs as
  | [], [], h => h
  | _ :: _, .inl _ :: _, h => ⟨h.1.mono s, h.2.mono s⟩
  | _ :: _, .inr _ :: _, h => ⟨h.1, h.2.mono s⟩
  | [], _ :: _, h => h.elim
  | _ :: _, [], h => h.elim
theorem MArgs.slots {C : GCtx} {F : Hp} {σ : _root_.L2.St} : ∀ {vs : List V} {cs : List Cell}, MArgs C F σ vs (cs.map .inl) → Slots C F (vs.map some) cs []
  | [], [], _ => .nil
  | _ :: _, _ :: _, h => .cons (L := []) (L' := []) h.1 h.2.slots
  | [], _ :: _, h => h.elim
  | _ :: _, [], h => h.elim
theorem MArgs.at {C : GCtx} {F : Hp} {σ : _root_.L2.St} {j : Nat} {c : Cell} {post : List AC} : ∀ {pre : List Cell} {vs : List V}, MArgs C F σ vs (pre.map .inl ++ .inr (j, c) :: post) →
    ∃ vs1 v vs2, vs = vs1 ++ v :: vs2 ∧ vs1.length = pre.length ∧ σ[j]? = some (some v) ∧ Slots C F (vs1.map some) pre [] ∧ MArgs C F σ vs2 post
  | [], v :: vs, h => ⟨[], v, vs, rfl, rfl, h.1, .nil, h.2⟩
  | c0 :: pre, v :: vs, h => by
    obtain ⟨vs1, u, vs2, e, hl, hj, sl, hr⟩ := MArgs.at (pre := pre) h.2
    exact ⟨v :: vs1, u, vs2, by rw [e]; rfl, by simp [hl], hj, .cons (L := []) (L' := []) h.1 sl, hr⟩
  | [], [], h => h.elim
  | _ :: _, [], h => h.elim
section
variable {tx : XC → Addr} {Y : YC} {Γ : List Cell} {te : TE} {tr tl : TA} {α β τ σ : Type} {d : Dat α} {rest : TS} {js : List Nat} {K : Kt τ}
/-! ### the body of such a def -/
end
theorem KReps.imm {α : Type} {d : Dat α} [i : @Imm α d] {C : GCtx} {F H : Hp} (t : ∀ a xs, H a = some (.tup xs) → F a = some (.tup xs)) : ∀ {ps : List (Key × V)} {xs : List (Int × α)}, KReps d C H ps xs → KReps d C F ps xs
  | [], [], _ => trivial
  | _ :: _, _ :: _, h => ⟨h.1, i.imm t h.2.1, KReps.imm t h.2.2⟩
  | [], _ :: _, h => h.elim
  | _ :: _, [], h => h.elim
instance mDI {α : Type} [d : Dat α] [i : Imm α] : OIm (DI α) oDI := ⟨fun t ⟨a, ps, e, h, r⟩ => ⟨a, ps, e, h, r.imm t⟩⟩
/-! lent, and others borrowed meanwhile -/
section
variable {tx : XC → Addr} {Y : YC} {Γ : List Cell} {te : TE} {tr tl : TA} {α β τ σ : Type} {d : Dat α} {rest : TS} {js : List Nat} {K : Kt τ} {j0 : Nat}
end
end G
end

section
set_option maxHeartbeats 2000000
noncomputable section
/-! M14: set comprehensions of ints, sorted. -/
namespace L2
open PySem PySem.Spec PyProof.Rows
section
variable {X : Cx}
abbrev set00 (w : World) (D : Addr) : HO := SetO w D (fun _ => false) 0
abbrev setPl (w : World) (D : Addr) (S : Int → Bool) (n : Nat) (c : Int) : HO := SetO w D (fun j => S j || decide (j = c)) (if S c = true then n else n + 1)
/-- {elt for target in iter if ..}, elt an int: D the new set, W by turn and measure -/
def tSci (w : World) (wi : TI) (g : TG) (tt : TT) (te : TE) (vs : List Nat) : TE := fun σ H Q => wi σ H fun J Ha => ∀ D, Ha D = none → ∃ W : Nat → Nat → Hp → Prop, (∃ m, W 0 m (upd Ha D (set00 w D))) ∧ ∀ i m Hb, W i m Hb →
  (J.stop i Hb ∧ Q (.ref D) Hb) ∨ (J.go i Hb ∧ ∃ Nx : Hp → Prop, (∀ Hc, Nx Hc → ∃ m2, m2 < m ∧ W (i + 1) m2 Hc) ∧ ∀ x Hc, J.yld i Hb x Hc → g x (wipe σ vs) Hc fun σd Hd => wipe σd vs = wipe σ vs ∧ tt σd Hd fun b He =>
    if b = true then te σd He fun y Hf => ∃ (c : Int) (S : Int → Bool) (n : Nat), y = .int c ∧ Hf D = some (SetO w D S n) ∧ n + 1 < scanBound ∧ Nx (upd Hf D (setPl w D S n c)) else Nx He)
theorem add_int {pins : List (Addr × Obj)} {σ : St} {H : Hp} {s : Shared} {E : Value → Shared → Prop} {D : Addr} {S : Int → Bool} {n : Nat} {c : Int} {tk : Tok} {Q : Value → Shared → Prop} (I : Inv X pins σ H s) (hD : H D = some (SetO X.w D S n)) (room : n + 1 < scanBound)
    (h : ∀ s2, Inv X pins σ (upd H D (setPl X.w D S n c)) s2 → Q .none s2) : wpAny (model X.prog X.w) X.A (call (.builtin "set.add") [.ref D, .int c tk]) Q E s := by
  refine setR_add (setO_get I hD) room fun hp2 sb new => ?_
  have ex : ∃ u, hp2.get? D = some u := by
    obtain ⟨o, _, _, _, ho, _⟩ := id new
    exact ⟨o, ho⟩
  exact h _ (I.write (e := D) (t' := s.toks + 1) (by rw [hD]; trivial) (.inl rfl) (fun b u hb hu => (sb.2 b hb).trans hu) ex (setO_new new))
theorem pe_sci {elt tg iter : Expr} {ifs : List Expr} {scope : Scope} {own : List (Str × Nat)} {pos : Pos} {wi : TI} {g : TG} {tt : TT} {te : TE} (hc : X.calm = true) (hN : X.N.Nodup) (hi : PI X tg iter wi) (ok : BlkOk X.N X.env.scope scope own)
    (hg : ∀ (z : Shared) (Hz : Hp) (C : Addr) (cl : List (Str × Addr)) (fp : List Addr), PG (X.blk z Hz scope (compEnvC scope cl C X.env) fp) tg g)
    (ht : ∀ (z : Shared) (Hz : Hp) (C : Addr) (cl : List (Str × Addr)) (fp : List Addr), PTs (X.blk z Hz scope (compEnvC scope cl C X.env) fp) ifs tt)
    (he : ∀ (z : Shared) (Hz : Hp) (C : Addr) (cl : List (Str × Addr)) (fp : List Addr), PE (X.blk z Hz scope (compEnvC scope cl C X.env) fp) elt te) (hs : ∀ x, foldedSetIterable iter X.env x = pure x := by intro _; rfl) :
    PE X (.SetComp elt [⟨tg, iter, ifs, 0⟩] scope pos) (tSci X.w wi g tt te (own.map (·.2))) := by
  refine ⟨fun pins s σ H Q I h => ?_⟩
  rw [PpSet.eval_SetComp]
  have clo : ∀ y ∈ scope.names, y.2 = .free → ∃ c, X.env.cells.lookup y.1 = some c := fun y hy e => (ok.free y hy e).elim (fun k => I.ok.has _ (.inl k)) fun k => I.ok.has _ (.inr k)
  refine wpAny_comprehension_free (use := none) rfl hs (closure_ok clo) ok.kind (fun y hy e => by rw [ok.uniq y hy, e]) (thn (hi.run pins s σ H _ I h) fun _ sa ha => thn ha fun _ sb hb => ?_)
  obtain ⟨it, fp, tn, J, Hb, e, Ib, T, tb, fb, q⟩ := hb
  subst e
  refine PpSet.newSet_ok (newEnv_comp ?_)
  generalize hD : sb.heap.objs.size = D
  obtain ⟨W, ⟨m0, w0⟩, turn⟩ := q D (Ib.hok.fresh (Nat.le_of_eq hD))
  generalize hsc : ({ sb with heap := sb.heap.push { cls := .type "set", dict := none, data := .set #[] 0 (.fresh 0 0 (!X.w.params.followText "set-order")) } } : Shared) = sc
  have hsh : sc.heap = sb.heap.push { cls := .type "set", dict := none, data := .set #[] 0 (.fresh 0 0 (!X.w.params.followText "set-order")) } := by rw [← hsc]
  have Ic : Inv X pins σ (upd Hb D (set00 X.w D)) sc := by
    rw [← hsc]
    refine Ib.laid (t' := sb.toks) (fun b o e => Heap.get?_push_of_some _ e) (Nat.le_of_eq hD) ?_
    rw [← hD]; exact setO_new (setR_fresh X.w)
  have fc : ∀ b ∈ fp, FpOk X pins (upd Hb D (set00 X.w D)) b ∧ b < sc.heap.objs.size := fun b hb => by
    obtain ⟨ob, eo, _⟩ := T.obj _ _ tb b hb
    have lt := Heap.lt_size eo
    exact ⟨⟨by rw [upd_ne (by rw [← hD]; exact Nat.ne_of_lt lt)]; exact (fb b hb).1, (fb b hb).2⟩, by rw [hsh, Heap.size_push]; exact Nat.lt_succ_of_lt lt⟩
  have tc : tn 0 sc.heap := T.keep _ _ _ tb fun b _ o e => by rw [hsh]; exact Heap.get?_push_of_some _ e
  have Id := block_start Ic ok hN fc
  have kg := hg sc (upd Hb D (set00 X.w D)) sc.heap.objs.size (cellsFrom (sc.heap.objs.size + 1) scope.names (cloFrom X.env.cells scope.names [])) fp
  have kt := ht sc (upd Hb D (set00 X.w D)) sc.heap.objs.size (cellsFrom (sc.heap.objs.size + 1) scope.names (cloFrom X.env.cells scope.names [])) fp
  have ke := he sc (upd Hb D (set00 X.w D)) sc.heap.objs.size (cellsFrom (sc.heap.objs.size + 1) scope.names (cloFrom X.env.cells scope.names [])) fp
  have kn : ∀ b ∈ fp, upd Hb D (set00 X.w D) b = none := fun b hb => (fc b hb).1.1
  show codeAny (model X.prog X.w) X.A (.compStart (.SetComp elt [⟨tg, iter, ifs, 0⟩] scope pos) 0 (.ref it) (.ref D) (compEnvC scope (cellsFrom (sc.heap.objs.size + 1) scope.names (cloFrom X.env.cells scope.names [])) sc.heap.objs.size X.env)) (compPost (model X.prog X.w) X.A X.xe none (EP X pins σ Q) (.ref D) sc.heap.objs.size) _
  generalize hen : compEnvC scope (cellsFrom (sc.heap.objs.size + 1) scope.names (cloFrom X.env.cells scope.names [])) sc.heap.objs.size X.env = en at Id kg kt ke ⊢
  have enL : en.locals = sc.heap.objs.size := by subst hen; rfl
  generalize hHc : upd Hb D (set00 X.w D) = Hc at Ic Id kg kt ke w0 kn fc
  generalize hsd : ({ sc with heap := pushCells (sc.heap.push { cls := .type "dict", data := .dict #[] }) scope.names } : Shared) = sd at Id ⊢
  have td : tn 0 sd.heap := T.keep _ _ _ tc fun b _ o e => by rw [← hsd]; exact pushCells_keeps _ _ _ _ (Heap.get?_push_of_some _ e)
  have own0 : ∀ {σk : St} {Hk : Hp} {sk : Shared}, Inv (X.blk sc Hc scope en fp) [] σk Hk sk → (∀ b ∈ fp, Hk b = none) → ∀ b ∈ fp, FpOk (X.blk sc Hc scope en fp) [] Hk b := fun {σk Hk sk} Ik nk b hb =>
    ⟨nk b hb, (Ik.ok.exf b hb).1, Ik.ok.exfs b hb, .inl hb, (fun x c e => (Ik.ok.exf b hb).2 x c e), fun p hp => absurd (show p ∈ ([] : List (Addr × Obj)) ++ [] from hp) (by simp)⟩
  have loop : codeAny (model X.prog X.w) X.A (.compLoop (.SetComp elt [⟨tg, iter, ifs, 0⟩] scope pos) 0 (.ref it) (.ref D) en) (compPost (model X.prog X.w) X.A X.xe none (EP X pins σ Q) (.ref D) sc.heap.objs.size) sd := by
    refine PpSet.compLoopS_any (fun n z => ∃ i Hz, Inv (X.blk sc Hc scope en fp) [] (wipe σ (own.map (·.2))) Hz z ∧ tn i z.heap ∧ (∀ b ∈ fp, Hz b = none) ∧ W i n Hz) ?_ m0 ⟨0, Hc, Id, td, kn, w0⟩
    rintro n se ⟨i, He, Ie, te', ne, we⟩
    rcases turn i n He we with ⟨stop, qq⟩ | ⟨go, Nx, nxt, step⟩
    · refine thnF (T.done (X.blk sc Hc scope en fp) rfl rfl rfl hc i [] se _ He (fun _ _ => False) Ie (own0 Ie ne) te' stop) fun r sf ⟨hr, If⟩ => ?_
      subst hr
      have Ig : Inv X pins σ He sf := Ic.call' (ch := fp) If.os If.base If.hok If.bare fun b hb => let z := (fc b hb).1.2; ⟨z.2.2.1, z.1, z.2.2.2.1, z.2.2.2.2⟩
      have nL : He sc.heap.objs.size = none := by rw [← enL]; exact If.free
      obtain ⟨m, hn, _⟩ := If.loc
      replace hn : sf.heap.Ns en.locals m := hn
      rw [enL] at hn
      obtain ⟨f0, f1, f2, f3, f4, f5⟩ := Ic.fpOk (Nat.le_refl _) nL
      exact ⟨m, hn, fun _ sb2 => ⟨.ref D, He, Ig.turned (t' := sf.toks) (fun b o hb e => (sb2.2 b hb).trans e) f0 f1 f3 f4 f5, rfl, qq⟩⟩
    · refine thnF (T.item (X.blk sc Hc scope en fp) rfl rfl rfl hc i [] se _ He (fun _ _ => False) Ie (own0 Ie ne) te' go) fun r sf ⟨u, hr, hf⟩ => ?_
      subst hr
      refine thnF hf fun _ sg ⟨x, Hg, Ig, rg, yg, tg', ng⟩ => ?_
      refine thnF (kg.run _ sg _ Hg x u _ (Ig.pinned (own0 Ig ng) (T.obj _ _ tg')) rg (step x Hg yg)) fun _ sh ⟨σh, Hh, Ih, hw, qh⟩ => ?_
      refine thnF (kt.run _ sh σh Hh _ Ih qh) fun b sj ⟨Hj, Ij, qj⟩ => ?_
      have fin : ∀ {sk : Shared} {Hk : Hp}, Inv (X.blk sc Hc scope en fp) ([] ++ pinsAt fp sg.heap) σh Hk sk → Nx Hk → ∃ m, m < n ∧ ∃ i Hk, Inv (X.blk sc Hc scope en fp) [] (wipe σ (own.map (·.2))) Hk sk ∧ tn i sk.heap ∧ (∀ b ∈ fp, Hk b = none) ∧ W i m Hk := fun {sk Hk} Ik nx => by
        obtain ⟨m2, hm, wk⟩ := nxt Hk nx
        have pk : ∀ b ∈ fp, ∀ o, sg.heap.get? b = some o → sk.heap.get? b = some o ∧ Hk b = none := fun b hb o e => by
          have z := Ik.pin (b, o) (List.mem_append_right _ (List.mem_append_right _ (mem_pinsAt hb e)))
          exact ⟨z.1, z.2.1⟩
        refine ⟨m2, hm, i + 1, Hk, (Ik.unpinned (pins := [])).weak (by rw [← hw, wipe_length]) (fun j v e => ?_), T.keep _ _ _ tg' fun b hb o e => (pk b hb o e).1, fun b hb => ?_, wk⟩
        · rw [← hw] at e; exact (wipe_some e).1
        · obtain ⟨o, e, _⟩ := T.obj _ _ tg' b hb; exact (pk b hb o e).2
      cases b with
      | false =>
        rw [if_neg (by simp)] at qj
        rw [if_neg (by simp)]
        exact fin Ij qj
      | true =>
        rw [if_pos rfl] at qj
        rw [if_pos rfl]
        refine thnF (ke.run _ sj σh Hj _ Ij qj) fun v sk ⟨y, Hk, Ik, rk, c, S, n0, ey, hDk, hz, nx⟩ => ?_
        subst ey
        obtain ⟨tk, rfl⟩ := rk
        exact add_int (X := X.blk sc Hc scope en fp) Ik hDk hz fun sl Il => fin Il nx
  exact PpSet.codeAny_compStart_set loop (T.self X.A 0 _ _ _ td loop)
theorem sci_w (w : World) {elt tg iter : Expr} {ifs : List Expr} {scope : Scope} {own : List (Str × Nat)} {pos : Pos} {wi : TI} {g : TG} {tt : TT} {te : TE} (hc : X.calm = true) (hN : X.N.Nodup) (hi : PI X tg iter wi) (ok : BlkOk X.N X.env.scope scope own)
    (hg : ∀ (z : Shared) (Hz : Hp) (C : Addr) (cl : List (Str × Addr)) (fp : List Addr), PG (X.blk z Hz scope (compEnvC scope cl C X.env) fp) tg g)
    (ht : ∀ (z : Shared) (Hz : Hp) (C : Addr) (cl : List (Str × Addr)) (fp : List Addr), PTs (X.blk z Hz scope (compEnvC scope cl C X.env) fp) ifs tt)
    (he : ∀ (z : Shared) (Hz : Hp) (C : Addr) (cl : List (Str × Addr)) (fp : List Addr), PE (X.blk z Hz scope (compEnvC scope cl C X.env) fp) elt te) (hs : ∀ x, foldedSetIterable iter X.env x = pure x := by intro _; rfl) (hw : X.w = w := by rfl) :
    PE X (.SetComp elt [⟨tg, iter, ifs, 0⟩] scope pos) (tSci w wi g tt te (own.map (·.2))) := hw ▸ pe_sci hc hN hi ok hg ht he hs
theorem sortedS_w (w : World) (hc : X.calm = true) (hw : X.w = w := by rfl) : CallR X (.builtin "sorted") (rSortedSet w) := hw ▸ cr_sortedSet hc
end
end L2
namespace G
open PySem PySem.Spec PyProof.Rows L2 PySem.W
section
variable {tx : XC → Addr} {Y : YC} {Γ : List Cell} {ta te tl : TE} {tt : TT} {g : TG} {α τ : Type} {d : Dat α} {vs : List Nat}
/-- the members added one after another -/
def setOf (xs : List Int) : IS := xs.foldl isAdd ⟨[]⟩
theorem setOf_snoc (xs : List Int) (x : Int) : setOf (xs ++ [x]) = isAdd (setOf xs) x := by unfold setOf; rw [List.foldl_append]; rfl
theorem set_put {S : Int → Bool} {n : Nat} {s : IS} {y : Int} (o : SetOk S n s) : SetOk (fun j => S j || decide (j = y)) (if S y = true then n else n + 1) (isAdd s y) := by
  refine ⟨fun k => ?_, ?_⟩
  · unfold isAdd
    by_cases hy : y ∈ s.l
    · rw [if_pos hy]
      show (S k || decide (k = y)) = _
      rw [o.1 k]
      by_cases hk : k = y
      · subst hk; simp [hy]
      · simp [hk]
    · rw [if_neg hy]
      show (S k || decide (k = y)) = _
      rw [o.1 k]
      by_cases hk : k = y
      · subst hk; simp
      · simp [hk]
  · unfold isAdd
    by_cases hy : y ∈ s.l
    · rw [if_pos hy, if_pos (by rw [o.1 y]; simpa using hy)]; exact o.2
    · rw [if_neg hy, if_neg (by rw [o.1 y]; simpa using hy), o.2]; simp
/-- one turn of a set comprehension; the members so far: ys -/
theorem scomp_turn {e : En} {F1 : Hp} {σ : _root_.L2.St} {H1 : Hp} {D : Addr} {x : α} {v : V} {I I' : List Int → Prop} (s1 : State Y e F1 σ H1 Γ) (hT : Tg g vs)
    (hs : ∀ ys, I ys → A Y g (wipeC Γ vs) d x fun Γ2 => T Y tt Γ2 fun b => (b = true → W Y te Γ2 dInt fun y => ys.length < 1000 ∧ I' (ys ++ [y])) ∧ (b = false → I' ys)) {H F' : Hp} {S : Int → Bool} {n : Nat} {ys : List Int}
    (kw : Wk ⟨F1, H1, []⟩ F' [(D, SetO Y.w D S n)] H) (so : SetOk S n (setOf ys)) (hl : n ≤ ys.length) (hi : I ys) (rx : d.rep Y.g F' v x) :
    g v (wipe σ vs) H fun σ2 H2 => wipe σ2 vs = wipe σ vs ∧ tt σ2 H2 fun b H3 =>
      if b = true then te σ2 H3 fun y H4 => ∃ (c : Int) (S : Int → Bool) (n : Nat), y = .int c ∧ H4 D = some (SetO Y.w D S n) ∧ n + 1 < scanBound ∧ (∃ F' S' n' ys, Wk ⟨F1, H1, []⟩ F' [(D, SetO Y.w D S' n')] (upd H4 D (setPl Y.w D S n c)) ∧ SetOk S' n' (setOf ys) ∧ n' ≤ ys.length ∧ I' ys)
      else (∃ F' S' n' ys, Wk ⟨F1, H1, []⟩ F' [(D, SetO Y.w D S' n')] H3 ∧ SetOk S' n' (setOf ys) ∧ n' ≤ ys.length ∧ I' ys) := by
  have st := (s1.growL kw).wipe vs
  have ww : ∀ σ0 : _root_.L2.St, wipe (wipe σ0 vs) vs = wipe σ0 vs := by
    intro σ0
    have gen : ∀ (l : List Nat) (σ1 : _root_.L2.St), (∀ j ∈ l, (σ1[j]? = none ∨ σ1[j]? = some none)) → wipe σ1 l = σ1 := by
      intro l
      induction l with
      | nil => intro _ _; rfl
      | cons j l ih =>
        intro σ1 hj
        unfold wipe
        rw [ih σ1 fun m hm => hj m (List.mem_cons_of_mem _ hm)]
        apply List.ext_getElem?
        intro m
        rw [List.getElem?_set]
        by_cases hm : j = m
        · subst hm
          rcases hj j List.mem_cons_self with z | z
          · rw [z, if_pos rfl, if_neg (Nat.not_lt.mpr (List.getElem?_eq_none_iff.mp z))]
          · rw [z, if_pos rfl, if_pos (List.getElem?_eq_some_iff.mp z).1]
        · rw [if_neg hm]
    refine gen vs _ fun j hj => ?_
    cases q : (wipe σ0 vs)[j]? with
    | none => exact .inl rfl
    | some o =>
      cases o with
      | none => exact .inr rfl
      | some y => exact absurd hj (wipe_some q).2
  have key := hs ys hi e F' _ H v st rx (fun σ2 H2 => tt σ2 H2 fun b H3 =>
      if b = true then te σ2 H3 fun y H4 => ∃ (c : Int) (S : Int → Bool) (n : Nat), y = .int c ∧ H4 D = some (SetO Y.w D S n) ∧ n + 1 < scanBound ∧ (∃ F' S' n' ys, Wk ⟨F1, H1, []⟩ F' [(D, SetO Y.w D S' n')] (upd H4 D (setPl Y.w D S n c)) ∧ SetOk S' n' (setOf ys) ∧ n' ≤ ys.length ∧ I' ys)
      else (∃ F' S' n' ys, Wk ⟨F1, H1, []⟩ F' [(D, SetO Y.w D S' n')] H3 ∧ SetOk S' n' (setOf ys) ∧ n' ≤ ys.length ∧ I' ys)) fun σ2 Γ2 h2 st2 => by
    refine h2 e F' σ2 H st2 _ fun b F3 H3 kb g3 => ?_
    have kw3 := kw.trans0 g3
    cases b with
    | false => exact ⟨F3, S, n, ys, kw3, so, hl, kb.2 rfl⟩
    | true =>
      refine kb.1 rfl e F3 σ2 H3 (st2.grow g3) _ fun y F4 H4 yv ⟨hz, ky⟩ g4 ry => ?_
      have kw4 := kw3.trans0 g4
      have hD : H4 D = some (SetO Y.w D S n) := (kw4.ow (D, SetO Y.w D S n) (by simp)).2.1
      cases (show y = .int yv from ry)
      refine ⟨yv, S, n, rfl, hD, Nat.lt_of_le_of_lt (show n + 1 ≤ 1001 by omega) (by decide), F4, _, _, ys ++ [yv], kw4.put (fun _ z => by cases z), by rw [setOf_snoc]; exact set_put so, ?_, ky⟩
      rw [List.length_append, List.length_singleton]
      split <;> omega
  have key2 := hT v _ H _ key
  rw [ww] at key2
  exact key2
/-- .. over a list -/
def M.scomp {α : Type} (p : α → M Bool) (f : α → M Int) (xs : List α) : M IS := M.asrt (xs.length ≤ 1000) (M.comp p f xs >>= fun ys => .ok (setOf ys))
theorem oe_sc {m0 : M (List α)} {p : α → M Bool} {f : α → M Int} (hT : Tg g vs ∧ MoG g) (h : We tx Y tl Γ (dList (d := d)) m0) (hb : ∀ x, A Y g (wipeC Γ vs) d x fun Γ2 => Te tx (calm Y.g) tt Γ2 (p x) ∧ We tx (calm Y.g) te Γ2 dInt (f x)) :
    Oe tx Y (tSci Y.w (iList Y.K tl) g tt te vs) Γ oSet (m0 >>= M.scomp p f) := fun nb xk e F σ H s Q q => h.k nb xk (k := fun xs => m0 = .ok xs) (fun xs e _ _ => e) e F σ H s _ fun v F1 H1 xs hm g1 ⟨a, us, e1, hq, r⟩ => by
  subst e1
  have nb1 : (M.scomp p f xs).nb := M.nb2 nb hm
  have hz : xs.length ≤ 1000 := M.asrt_nb nb1
  have e2 : M.scomp p f xs = (M.comp p f xs >>= fun ys => .ok (setOf ys)) := M.asrt_pos hz
  rw [e2] at nb1
  have nb2 : (M.comp p f xs).nb := M.nb1 nb1
  refine ⟨a, rfl, ⟨us, g1.fh.seq hq⟩, fun D hD => ?_⟩
  have kw0 : Wk ⟨F1, H1, []⟩ F1 [(D, set00 Y.w D)] (upd H1 D (set00 Y.w D)) := g1.base.own hD (fun _ z => by cases z)
  refine ⟨fun i m H => m = us.length - i ∧ i ≤ us.length ∧ ∃ F' S n ys, Wk ⟨F1, H1, []⟩ F' [(D, SetO Y.w D S n)] H ∧ SetOk S n (setOf ys) ∧ n ≤ ys.length ∧ M.comp p f (xs.take i) = .ok ys ∧ ys.length ≤ i, ⟨us.length, by simp, Nat.zero_le _, F1, _, 0, [], kw0, ⟨fun k => by simp [setOf], rfl⟩, Nat.le_refl _, rfl, Nat.le_refl _⟩, ?_⟩
  rintro i m H ⟨rfl, hi, F', S, n, ys, kw, so, hn, hI, hyl⟩
  have hq' : SqL Y.K H a us := (kw.ff.trans kw.fh).seq hq
  have rl := r.len
  by_cases hlt : i < us.length
  · have hw : us[i]? = some us[i] := by simp [hlt]
    generalize us[i] = w at hw
    obtain ⟨x, hx, rx⟩ := r.getV hw
    refine .inr ⟨⟨us, w, hq', hw⟩, fun H => ∃ F' S n ys, Wk ⟨F1, H1, []⟩ F' [(D, SetO Y.w D S n)] H ∧ SetOk S n (setOf ys) ∧ n ≤ ys.length ∧ M.comp p f (xs.take (i + 1)) = .ok ys ∧ ys.length ≤ i + 1, fun H' p' => ⟨us.length - (i + 1), by omega, rfl, hlt, p'⟩, fun x0 H' ⟨e3, hall⟩ => ?_⟩
    subst e3
    have ex : x0 = w := by
      have := hall us hq'
      rw [hw] at this
      exact (Option.some.inj this).symm
    subst ex
    have htk : xs.take (i + 1) = xs.take i ++ [x] := by rw [List.take_add_one, hx]; rfl
    refine scomp_turn (d := d) (x := x) (I := fun ys => M.comp p f (xs.take i) = .ok ys ∧ ys.length ≤ i) (s.grow g1) hT.1 (fun ys ⟨hI, hyl⟩ => ?_) kw so hn ⟨hI, hyl⟩ (d.mono kw.ff rx)
    have e1 : M.comp p f (xs.take (i + 1)) = (M.comp p f [x] >>= fun b => .ok (ys ++ b)) := by rw [htk, M.comp_app, hI]; rfl
    have nb3 : (M.comp p f [x]).nb := fun z => nb2 (by
      have : xs = xs.take (i + 1) ++ xs.drop (i + 1) := (List.take_append_drop _ _).symm
      rw [this, M.comp_app, e1, z]; rfl)
    intro e0 F0 σ0 H0 v0 s0 r0 Q0 q0
    refine hb x e0 F0 σ0 H0 v0 s0 r0 Q0 fun σ' Γ' ⟨ht, hw⟩ s' => q0 σ' Γ' ?_ s'
    simp only [M.comp] at nb3 e1
    obtain ⟨b, hb1⟩ := M.calm_nb (M.nb1 nb3)
    rw [hb1] at nb3 e1
    simp only [M.calm_of_ok, M.ok_bind] at nb3 e1
    refine t_mono (t_calm (ht (by rw [hb1]; exact fun z => nomatch z) (by rw [hb1]; exact XkM.ok))) fun b' eb => ⟨fun z => ?_, fun z => ?_⟩
    · rw [hb1] at eb
      cases eb
      subst z
      rw [if_pos rfl] at nb3 e1
      obtain ⟨y, hy⟩ := M.calm_nb (M.nb1 nb3)
      rw [hy] at e1
      refine w_mono (w_calm (hw (by rw [hy]; exact fun z => nomatch z) (by rw [hy]; exact XkM.ok))) fun y' ey => ?_
      rw [hy] at ey
      cases ey
      exact ⟨by omega, e1, by simp; omega⟩
    · rw [hb1] at eb
      cases eb
      subst z
      rw [if_neg (by simp)] at e1
      exact ⟨by rw [e1]; simp, by omega⟩
  · have hi2 : i = xs.length := by omega
    subst hi2
    rw [List.take_length] at hI
    refine .inl ⟨⟨us, hq', by omega⟩, q _ F' H _ (setOf ys) ?_ (by simpa using g1.trans kw) ⟨D, S, n, rfl, rfl, so⟩⟩
    rw [hm]
    show M.scomp p f xs = _
    rw [e2, hI]; rfl
/-- sorted(s) of a set of ints -/
def M.sortS (s : IS) : M (List Int) := M.asrt (s.l.length < 64 ∧ s.l.Nodup) (.ok (isort s.l))
theorem oe_sortS {m : M IS} (h : Re tx Y ta Γ dSet m) : Oe tx Y (tCB (rSortedSet Y.w) (tCons ta tNil)) Γ (oList (d := dInt)) (m >>= M.sortS) := fun nb xk e F σ H s Q q => h.k nb xk (k := fun xs => m = .ok xs ∧ (M.sortS xs).nb) (fun xs e nb2 _ => ⟨e, nb2⟩) e F σ H s _ fun v F' H' xs ⟨hm, nb2⟩ g ⟨a, S, n, e1, hs, o⟩ => by
  subst e1
  obtain ⟨h64, hnd⟩ := M.asrt_nb nb2
  refine ⟨a, S, n, rfl, hs, by rw [o.2]; exact h64, fun ns p hp hmem hlen hn => ?_⟩
  have hperm : ns.Perm xs.l := (List.perm_ext_iff_of_nodup (hp.imp fun h => by omega) hnd).mpr fun k => by rw [hmem k, o.1 k, decide_eq_true_eq]
  have es : ns = isort xs.l := isort_eq hperm (hp.imp fun h => by omega)
  obtain ⟨h3, h4⟩ := o_new (d := dInt) (L := []) g.base hn (Reps.ofInts ns)
  refine q _ F' _ _ ns ?_ (by simpa using g.trans h3) h4
  rw [hm]
  show M.sortS xs = _
  unfold M.sortS
  rw [M.asrt_pos ⟨h64, hnd⟩, es]
end
end G
end
end

noncomputable section
/-! M15: a == b == c. -/
namespace G
open PySem PySem.Spec PyProof.Rows L2 PySem.W
section
variable {tx : XC → Addr} {Y : YC} {Γ : List Cell} {ta tb tc : TE}
end
section
variable {tx : XC → Addr} {Y : YC} {Γ : List Cell} {ta tb te : TE} {α τ : Type} {d : Dat α} {rest : TS} {js : List Nat} {K : Kt τ}
/-- xs[i].append(y), the items owned -/
def M.appIx {α : Type} (xs : List (List α)) (mi : M Int) (mv : M α) : M (List (List α)) := mi >>= fun n => M.ofO (ixN xs.length n) >>= fun j => M.ofO xs[j]? >>= fun x => mv >>= fun y => M.asrt (x.length < PySem.sizeLine) (.ok (xs.set j (x ++ [y])))
theorem zm_appendIx {pin : Option V} {i : Nat} {xs : List (List α)} {mi : M Int} {mv : M α} {m2 : List (List α) → M τ} (hi : Γ[i]? = some (.own (dList (d := dList (d := d))) (oDeep (oList (d := d))) pin xs)) (hj : i ∈ js) (hx : Re tx Y ta Γ dInt mi) (hv : We tx Y te Γ d mv)
    (h2 : ∀ y, Zm tx Y js rest (Γ.set i (.own (dList (d := dList (d := d))) (oDeep (oList (d := d))) pin y)) K (m2 y)) : Zm tx Y js (tSeq (tDrop (tBM Y.K "list" rAppend (tOp (rIxL Y.K) (tVar i) ta) (tCons te tNil))) rest) Γ K (M.appIx xs mi mv >>= m2) := fun nb xk =>
  z_seq (z_appendIx hi (hx.k (M.nb1 nb) xk.l.here fun n e nb3 xk3 => by
    cases hq : ixN xs.length n with
    | none => rw [hq] at nb3; exact absurd rfl nb3
    | some j =>
      rw [hq] at nb3 xk3
      have nb3' : (M.ofO xs[j]? >>= fun x => mv >>= fun y => M.asrt (x.length < PySem.sizeLine) (.ok (xs.set j (x ++ [y])))).nb := nb3
      have xk3' : XkM tx Y Γ (M.ofO xs[j]? >>= fun x => mv >>= fun y => M.asrt (x.length < PySem.sizeLine) (.ok (xs.set j (x ++ [y])))) := xk3
      cases hz : xs[j]? with
      | none => rw [hz] at nb3'; exact absurd rfl nb3'
      | some x =>
        rw [hz] at nb3' xk3'
        exact ⟨j, x, rfl, hz, hv.k nb3' xk3' fun y e2 nb4 _ => ⟨M.asrt_nb nb4, (h2 _).go nb xk (by unfold M.appIx; rw [e]; show (M.ofO (ixN xs.length n) >>= _) = _; rw [hq]; show (M.ofO xs[j]? >>= _) = _; rw [hz]; show (mv >>= _) = _; rw [e2]; exact M.asrt_pos (M.asrt_nb nb4)) (wipeC_set hj)⟩⟩))
end
end G
end

noncomputable section
/-! M16: while with a walrus, None or a value narrowed, list.remove. -/
namespace G
open PySem PySem.Spec PyProof.Rows L2 PySem.W
section
variable {tx : XC → Addr} {Y : YC} {Γ : List Cell} {ta tb te : TE} {α β τ σ : Type} {d : Dat α} {ts rest : TS} {js js' : List Nat} {K : Kt τ} {i : Nat}
/-- xs.remove(k) -/
def M.remove (xs : List Int) (m : M Int) : M (List Int) := m >>= fun k => M.asrt (k ∈ xs) (.ok (xs.erase k))
end
end G
end

noncomputable section
/-! M17: for over a list that is owned and changed later. -/
namespace G
open PySem PySem.Spec PyProof.Rows L2 PySem.W
section
variable {tx : XC → Addr} {Y : YC} {Γ : List Cell} {te ta tb tc td tl : TE} {t u tt : TT} {α β γ δ ε σ τ ρ : Type} {d : Dat α} {d1 : Dat α} {d2 : Dat β} {d3 : Dat γ} {g : TG} {ts t1 t2 rest : TS} {js js' vs : List Nat} {K : Kt τ}
/-- what a for asks, P: what its turns keep -/
def BodyP (Y : YC) (g : TG) (ts : TS) {α : Type} (d : Dat α) (k : Ks) (get : Nat → Option α) (n : Nat) (Γ : List Cell) (P : List Cell → Prop) : Prop :=
  ∃ I : Nat → List Cell → Prop, I 0 Γ ∧ (∀ n Γ', I n Γ' → P Γ') ∧ (∀ i x Γ', get i = some x → I i Γ' → A Y g Γ' d x fun Γ2 => Z Y ts Γ2 { nx := I (i + 1), ct := I (i + 1), bk := k.nx, rt := k.rt }) ∧ ∀ Γ', I n Γ' → k.nx Γ'
theorem BodyP.body {k : Ks} {get : Nat → Option α} {n : Nat} {P : List Cell → Prop} (h : BodyP Y g ts d k get n Γ P) : Body Y g ts d k get n Γ := let ⟨I, h0, _, hs, hd⟩ := h; ⟨I, h0, hs, hd⟩
end
end G
end

noncomputable section
/-! M18: None or plain data, as plain data. -/
namespace G
open PySem PySem.Spec PyProof.Rows L2 PySem.W
def optU {α : Type} (f : α → PyData) : Opt α → PyData
  | .none => .none
  | .some x => f x
instance udOpt {α : Type} {d : Dat α} [u : @UD α d] : @UD (Opt α) (dOpt (d := d)) := ⟨optU u.toU, fun {C F v x} h => match x, h with
  | .none, h => h
  | .some _, h => u.du h⟩
end G
end

noncomputable section
/-! M19: plain data read as data of a known shape. -/
namespace G
open PySem PySem.Spec PyProof.Rows L2 PySem.W
/-- what plain data are, seen as of a shape -/
class OU (α : Type) [d : Dat α] where
  ofU : PyData → Option α
  snd : ∀ {C : GCtx} {F : Hp} {v : V} {x : PyData} {y : α}, ofU x = some y → DU C F x v → d.rep C F v y
def ofInt : PyData → Option Int | .int i => some i | _ => none
def ofBool : PyData → Option Bool | .bool i => some i | _ => none
def ofStr : PyData → Option Str | .str i => some i | _ => none
instance ouInt : OU Int := ⟨ofInt, fun {C F v x y} h r => by cases x <;> cases h; exact r⟩
instance ouBool : OU Bool := ⟨ofBool, fun {C F v x y} h r => by cases x <;> cases h; exact r⟩
instance ouStr : OU Str := ⟨ofStr, fun {C F v x y} h r => by cases x <;> cases h; exact r⟩
def ofAll {α : Type} (f : PyData → Option α) : List PyData → Option (List α)
  | [] => some []
  | x :: xs => match f x, ofAll f xs with | some y, some ys => some (y :: ys) | _, _ => none
theorem ofAll_reps {α : Type} {d : Dat α} [o : @OU α d] {C : GCtx} {F : Hp} : ∀ {ds : List PyData} {ys : List α} {vs : List V}, ofAll o.ofU ds = some ys → DUs C F ds vs → Reps d C F vs ys
  | [], ys, [], h, _ => by cases h; trivial
  | x :: xs, ys, v :: vs, h, r => by
    unfold ofAll at h
    cases h1 : o.ofU x with
    | none => rw [h1] at h; cases h
    | some y =>
      cases h2 : ofAll o.ofU xs with
      | none => rw [h1, h2] at h; cases h
      | some zs =>
        rw [h1, h2] at h
        cases h
        exact ⟨o.snd h1 r.1, ofAll_reps h2 r.2⟩
  | [], _, _ :: _, _, r => r.elim
  | _ :: _, _, [], _, r => r.elim
def ofList {α : Type} (f : PyData → Option α) : PyData → Option (List α)
  | .list ds => ofAll f ds
  | _ => none
def ofTup {α : Type} (f : PyData → Option α) : PyData → Option (Tup α)
  | .tuple ds => (ofAll f ds).map fun xs => ⟨xs⟩
  | _ => none
instance ouList {α : Type} {d : Dat α} [o : @OU α d] : @OU (List α) dList := ⟨ofList o.ofU, fun {C F v x y} h r => by
  cases x with
  | list ds =>
    obtain ⟨a, vs, e, h1, r1⟩ := r
    exact ⟨a, vs, e, h1, ofAll_reps h r1⟩
  | _ => cases h⟩
instance ouTup {α : Type} {d : Dat α} [o : @OU α d] : @OU (Tup α) dTup := ⟨ofTup o.ofU, fun {C F v x y} h r => by
  cases x with
  | tuple ds =>
    obtain ⟨a, vs, e, h1, r1⟩ := r
    have h : (ofAll o.ofU ds).map (fun xs => (⟨xs⟩ : Tup α)) = some y := h
    cases h2 : ofAll o.ofU ds with
    | none => rw [h2] at h; cases h
    | some xs =>
      rw [h2] at h
      cases h
      exact ⟨a, vs, e, h1, ofAll_reps h2 r1⟩
  | _ => cases h⟩
def ofPair {α β : Type} (f : PyData → Option α) (g : PyData → Option β) : PyData → Option (α × β)
  | .tuple [x, y] => match f x, g y with | some a, some b => some (a, b) | _, _ => none
  | _ => none
instance ouPair {α β : Type} {d1 : Dat α} {d2 : Dat β} [o1 : @OU α d1] [o2 : @OU β d2] : @OU (α × β) dPair := ⟨ofPair o1.ofU o2.ofU, fun {C F v x y} h r => by
  unfold ofPair at h
  split at h
  · rename_i x1 x2
    cases h1 : o1.ofU x1 with
    | none => rw [h1] at h; cases h
    | some a =>
      cases h2 : o2.ofU x2 with
      | none => rw [h1, h2] at h; cases h
      | some b =>
        rw [h1, h2] at h
        cases h
        obtain ⟨p, vs, e, ht, r1⟩ := r
        match vs, r1 with
        | [v1, v2], r1 => exact ⟨p, v1, v2, e, ht, o1.snd h1 r1.1, o2.snd h2 r1.2.1⟩
  · cases h⟩
def ofT4 {α β γ δ : Type} (f : PyData → Option α) (g : PyData → Option β) (h : PyData → Option γ) (i : PyData → Option δ) : PyData → Option (T4 α β γ δ)
  | .tuple [x, y, z, w] => match f x, g y, h z, i w with | some a, some b, some c, some d => some ⟨a, b, c, d⟩ | _, _, _, _ => none
  | _ => none
instance ouT4 {α β γ δ : Type} {d1 : Dat α} {d2 : Dat β} {d3 : Dat γ} {d4 : Dat δ} [o1 : @OU α d1] [o2 : @OU β d2] [o3 : @OU γ d3] [o4 : @OU δ d4] : @OU (T4 α β γ δ) dT4 := ⟨ofT4 o1.ofU o2.ofU o3.ofU o4.ofU, fun {C F v x y} h r => by
  unfold ofT4 at h
  split at h
  · rename_i x1 x2 x3 x4
    cases h1 : o1.ofU x1 with
    | none => rw [h1] at h; cases h
    | some a =>
      cases h2 : o2.ofU x2 with
      | none => rw [h1, h2] at h; cases h
      | some b =>
        cases h3 : o3.ofU x3 with
        | none => rw [h1, h2, h3] at h; cases h
        | some c =>
          cases h4 : o4.ofU x4 with
          | none => rw [h1, h2, h3, h4] at h; cases h
          | some d =>
            rw [h1, h2, h3, h4] at h
            cases h
            obtain ⟨p, vs, e, ht, r1⟩ := r
            match vs, r1 with
            | [v1, v2, v3, v4], r1 => exact ⟨p, v1, v2, v3, v4, e, ht, o1.snd h1 r1.1, o2.snd h2 r1.2.1, o3.snd h3 r1.2.2.1, o4.snd h4 r1.2.2.2.1⟩
  · cases h⟩
section
variable {tx : XC → Addr} {Y : YC} {Γ : List Cell} {te : TE} {α : Type} {d : Dat α}
end
end G
end

noncomputable section
/-! M20: xs[::-1]. -/
namespace G
open PySem PySem.Spec PyProof.Rows L2 PySem.W
section
variable {tx : XC → Addr} {Y : YC} {Γ : List Cell} {te : TE} {α : Type} {d : Dat α}
end
end G
end

noncomputable section
/-! M21: pairs that own one part. -/
namespace G
open PySem PySem.Spec PyProof.Rows L2 PySem.W
/-- frozen data, as a part of what is owned -/
@[reducible] def oFz {α : Type} {d : Dat α} : @OD α d := @OD.mk α d (fun C F v x L => L = [] ∧ d.rep C F v x) (fun s ⟨e, r⟩ => ⟨e, d.mono s r⟩) (fun ⟨_, r⟩ s _ => d.mono s r)
section
variable {tx : XC → Addr} {Y : YC} {Γ : List Cell} {α τ : Type} {d : Dat α} {ts : TS} {js : List Nat} {K : Kt τ} {m : M τ} {x : α}
end
end G
end

noncomputable section
/-! M22: comprehensions with two fors. -/
namespace G
open PySem PySem.Spec PyProof.Rows L2 PySem.W
section
variable {tx : XC → Addr} {Y : YC} {Γ : List Cell} {α : Type} {d : Dat α}
end
section
variable {Y : YC} {Γ : List Cell} {α β γ : Type} {d : Dat α} {d1 : Dat γ} {d2 : Dat β} {g g1 : TG} {tt tt1 : TT} {te : TE} {ti ti1 : TI} {vs vs1 : List Nat}
end
namespace M
variable {α β γ : Type}
/-- what one item of the first for gives -/
def part (p : α → M Bool) (m1 : α → M (List γ)) (p1 : α → γ → M Bool) (f : α → γ → M β) (x : α) : M (List β) := calm (p x) >>= fun b => if b then calm (m1 x) >>= fun zs => comp (p1 x) (f x) zs else .ok []
end M
section
variable {tx : XC → Addr} {Y : YC} {Γ : List Cell} {α β γ : Type} {d : Dat α} {d1 : Dat γ} {d2 : Dat β} {g g1 : TG} {tt tt1 : TT} {te : TE} {ti ti1 : TI} {vs vs1 : List Nat}
end
end G
end

/-! M23: == and != by an own __eq__. -/
namespace G
open PySem PySem.Spec PyProof.Rows L2 PySem.W
section
variable {X : Cx} {CXt : CXT} {k : Nat} {f C : Addr} {fd : FuncData} {ps : List Str} {sp : Sp}
/-- what stands at the right: an instance of the same class or a tuple -/
def EqArg (K : Frag) (C : Addr) (y : V) (H : Hp) : Prop := ∃ b, y = .ref b ∧ ((∃ dy gs, H b = some (.ins C dy gs)) ∨ (notFirst K C (.type "tuple") = true ∧ ∃ ys, TpA K H b ys))
theorem EqArg.mono {K : Frag} {C : Addr} {y : V} {F H : Hp} (h : EqArg K C y F) (s : Same F H) : EqArg K C y H := let ⟨b, e, h⟩ := h; ⟨b, e, h.imp (fun ⟨dy, gs, h⟩ => ⟨dy, gs, s _ _ h⟩) fun ⟨n, ys, h⟩ => ⟨n, ys, h.mono s⟩⟩
end
section
variable {X : Cx} {CXt : CXT} {k : Nat} {f C : Addr} {fd : FuncData} {ps : List Str} {sp : Sp}
end
section
variable {Y : YC} {Γ : List Cell} {ta tb : TE} {α β : Type} {d : Dat α} {d2 : Dat β} {C0 : Addr} {ns : List Str} {sp : Sp}
end
section
variable {tx : XC → Addr} {Y : YC} {Γ : List Cell} {t1 t2 : TE} {α1 α2 : Type} {d1 : Dat α1} {d2 : Dat α2} {m1 : M α1} {m2 : M α2} {C0 : Addr} {ns : List Str} {sp : Sp}
end
end G

/-! M24: an instance walked by its own __iter__ (iter of a tuple it holds). -/
namespace G
open PySem PySem.Spec PyProof.Rows L2 PySem.W
section
variable {X : Cx}
end
section
variable {X : Cx} {CXt : CXT} {k : Nat} {g C : Addr} {fd : FuncData} {ps : List Str} {f : Str} {e tg : Expr} {te : TE}
end
section
variable {Y : YC} {Γ : List Cell} {te : TE} {α β : Type} {d : Dat α} {d2 : Dat β} {C0 : Addr} {f : Str}
variable {tx : XC → Addr}
end
end G

noncomputable section
/-! M25: mixed data: an instance or plain data; tuples of them. -/
namespace G
open PySem PySem.Spec PyProof.Rows L2 PySem.W
@[reducible] def Mix (β : Type) := Sum β PyData
@[reducible] def dMix {β : Type} (d : Dat β) : Dat (Mix β) := ⟨fun C F v x => match x with
  | .inl y => d.rep C F v y
  | .inr u => DU C F u v, fun {C F F' v x} s h => match x, h with
  | .inl _, h => d.mono s h
  | .inr _, h => DU.mono s _ _ h⟩
section
variable {α β γ α2 β2 : Type} {d : Dat α} {d2 : Dat β} {d3 : Dat γ} {e1 : Dat α2} {e2 : Dat β2}
end
section
variable {tx : XC → Addr} {Y : YC} {Γ : List Cell} {te : TE} {α β : Type} {d : Dat α} {d2 : Dat β}
end
end G
end

noncomputable section
/-! M26: xs += ys (lists), xs.reverse(). -/
namespace G
open PySem PySem.Spec PyProof.Rows L2 PySem.W
section
variable {Y : YC} {Γ : List Cell} {te : TE} {α : Type} {d : Dat α} {k : Ks}
end
section
variable {tx : XC → Addr} {Y : YC} {Γ : List Cell} {te : TE} {α τ : Type} {d : Dat α} {K : Kt τ} {rest : TS} {js : List Nat}
def M.ext {α : Type} (xs : List α) (m : M (List α)) : M (List α) := m >>= fun ys => M.asrt (xs.length + ys.length ≤ PySem.sizeLine) (.ok (xs ++ ys))
end
end G
end

noncomputable section
/-! M27: xs.count(b) of bools. -/
namespace G
open PySem PySem.Spec PyProof.Rows L2 PySem.W
section
variable {X : Cx}
end
section
variable {tx : XC → Addr} {Y : YC} {Γ : List Cell} {ta tb : TE}
end
section
variable {α β γ δ : Type} {d : Dat α} {d2 : Dat β} {d3 : Dat γ} {d4 : Dat δ}
end
section
variable {tx : XC → Addr} {Y : YC} {Γ : List Cell} {ta : TE}
end
end G
end

noncomputable section
/-! M28: defs that change two of their arguments. -/
namespace G
open PySem PySem.Spec PyProof.Rows L2 PySem.W
theorem Wk.perm2 {e : En} {F H : Hp} {L L' : LO} (a : Wk e F L H) (p : L.Perm L') : Wk e F L' H :=
  a.sub (fun _ h => p.mem_iff.mpr h) ((p.map Prod.fst).nodup_iff.mp a.nd)
section
variable {tx : XC → Addr} {Y : YC} {Γ : List Cell} {te : TE} {tr tl : TA} {α1 α2 β τ σ : Type} {d1 : Dat α1} {d2 : Dat α2} {rest : TS} {js : List Nat} {K : Kt τ}
theorem set_set_ne {γ : Type _} {xs : List γ} {i j : Nat} {a b : γ} (h : i ≠ j) : (xs.set i a).set j b = (xs.set j b).set i a := List.set_comm _ _ h
/-! ### the body of such a def -/
end
end G
end

noncomputable section
/-! M29: class methods: C.m(..) and cls(..) within. -/
namespace G
open PySem PySem.Spec PyProof.Rows L2 PySem.W ClX
section
variable {X : Cx} {CXt : CXT} {k i : Nat} {C p g f : Addr} {mc : Value} {fd : FuncData} {ps : List Str} {sp : Sp} {E : L2.St → XK} {o e : Expr} {es : List Expr} {m x : Str} {pos apos np : Pos} {ta : TE} {t : TA} {pl : Sem Bool}
end
/-- the class itself, in a name -/
@[reducible] def dCls (C0 : Addr) : Dat Unit := ⟨fun _ _ v _ => v = .ref C0, fun _ h => h⟩
section
variable {tx : XC → Addr} {Y : YC} {Γ : List Cell} {te : TE} {tl : TA} {α β : Type} {d : Dat β} {sp : Sp} {E : _root_.L2.St → XK} {C0 : Addr}
end
end G
end

noncomputable section
/-! M30: plain data without lists (what a call may give while names are borrowed); calls within an except suite of defs that raise nothing. -/
namespace G
open PySem PySem.Spec PyProof.Rows L2 PySem.W
instance oimOb2 {α β : Type} {d1 : Dat α} {d2 : Dat β} [i1 : @Imm α d1] [i2 : @Imm β d2] {C0 : Addr} {f1 f2 : Str} : @OIm (Ob2 α β) (dOb2 (d1 := d1) (d2 := d2) C0 f1 f2) (oOb2 (d1 := d1) (d2 := d2) C0 f1 f2) :=
  @OIm.mk _ (dOb2 (d1 := d1) (d2 := d2) C0 f1 f2) (oOb2 (d1 := d1) (d2 := d2) C0 f1 f2) (fun t ⟨p, dx, v1, v2, e, h, r1, r2⟩ => ⟨p, dx, v1, v2, e, h, i1.imm t r1, i2.imm t r2⟩)
instance oimOb1 {α : Type} {d1 : Dat α} [i1 : @Imm α d1] {C0 : Addr} {f1 : Str} : @OIm (Ob1 α) (dOb1 (d1 := d1) C0 f1) (oOb1 (d1 := d1) C0 f1) :=
  @OIm.mk _ (dOb1 (d1 := d1) C0 f1) (oOb1 (d1 := d1) C0 f1) (fun t ⟨p, dx, v1, e, h, r1⟩ => ⟨p, dx, v1, e, h, i1.imm t r1⟩)
/-! ### without lists -/
mutual
def noL : PyData → Bool
  | .list _ => false
  | .tuple ds => noLs ds
  | .dict _ => false
  | _ => true
def noLs : List PyData → Bool
  | [] => true
  | d :: ds => noL d && noLs ds
end
mutual
theorem DU.imm {C : GCtx} {F H : Hp} (t : ∀ a xs, H a = some (.tup xs) → F a = some (.tup xs)) : ∀ (x : PyData) (v : V), noL x = true → DU C H x v → DU C F x v
  | .none, _, _, h => h
  | .bool _, _, _, h => h
  | .int _, _, _, h => h
  | .str _, _, _, h => h
  | .list _, _, n, _ => by cases n
  | .tuple ds, v, n, ⟨a, vs, e, h, r⟩ => ⟨a, vs, e, h.imp (t a _) id, DUs.imm t ds vs n r⟩
  | .dict _, _, _, h => h.elim
theorem DUs.imm {C : GCtx} {F H : Hp} (t : ∀ a xs, H a = some (.tup xs) → F a = some (.tup xs)) : ∀ (xs : List PyData) (vs : List V), noLs xs = true → DUs C H xs vs → DUs C F xs vs
  | [], [], _, h => h
  | d :: ds, v :: vs, n, h => by
    have n2 : (noL d && noLs ds) = true := n
    rw [Bool.and_eq_true] at n2
    exact ⟨DU.imm t d v n2.1 h.1, DUs.imm t ds vs n2.2 h.2⟩
  | [], _ :: _, _, h => h.elim
  | _ :: _, [], _, h => h.elim
end
@[reducible] def dUI : Dat PyData := ⟨fun C F v x => noL x = true ∧ DU C F x v, fun s ⟨n, h⟩ => ⟨n, DU.mono s _ _ h⟩⟩
instance imUI : @Imm PyData dUI := @Imm.mk PyData dUI fun t ⟨n, h⟩ => ⟨n, DU.imm t _ _ n h⟩
class UI (α : Type) [d : Dat α] [u : UD α] : Prop where
  no : ∀ x : α, noL (u.toU x) = true
instance uiInt : UI Int := ⟨fun _ => rfl⟩
instance uiBool : UI Bool := ⟨fun _ => rfl⟩
instance uiStr : UI Str := ⟨fun _ => rfl⟩
instance uiUnit : UI Unit := ⟨fun _ => rfl⟩
theorem noLs_map {α : Type} {d : Dat α} [u : @UD α d] [n : @UI α d u] : ∀ xs : List α, noLs (xs.map u.toU) = true
  | [] => rfl
  | x :: xs => by show (noL _ && noLs _) = true; rw [n.no x, noLs_map xs]; rfl
instance uiTup {α : Type} {d : Dat α} [u : @UD α d] [n : @UI α d u] : @UI (Tup α) dTup udTup := @UI.mk _ dTup udTup fun x => noLs_map x.l
instance uiPair {α β : Type} {d1 : Dat α} {d2 : Dat β} [u1 : @UD α d1] [u2 : @UD β d2] [n1 : @UI α d1 u1] [n2 : @UI β d2 u2] : @UI (α × β) dPair udPair := @UI.mk _ dPair udPair fun x => by
  show (noL _ && (noL _ && true)) = true
  rw [n1.no, n2.no]; rfl
instance uiT3 {α β γ : Type} {d1 : Dat α} {d2 : Dat β} {d3 : Dat γ} [u1 : @UD α d1] [u2 : @UD β d2] [u3 : @UD γ d3] [n1 : @UI α d1 u1] [n2 : @UI β d2 u2] [n3 : @UI γ d3 u3] : @UI (T3 α β γ) dT3 udT3 := @UI.mk _ dT3 udT3 fun x => by
  show (noL _ && (noL _ && (noL _ && true))) = true
  rw [n1.no, n2.no, n3.no]; rfl
instance uiT4 {α β γ δ : Type} {d1 : Dat α} {d2 : Dat β} {d3 : Dat γ} {d4 : Dat δ} [u1 : @UD α d1] [u2 : @UD β d2] [u3 : @UD γ d3] [u4 : @UD δ d4] [n1 : @UI α d1 u1] [n2 : @UI β d2 u2] [n3 : @UI γ d3 u3] [n4 : @UI δ d4 u4] : @UI (T4 α β γ δ) dT4 udT4 := @UI.mk _ dT4 udT4 fun x => by
  show (noL _ && (noL _ && (noL _ && (noL _ && true)))) = true
  rw [n1.no, n2.no, n3.no, n4.no]; rfl
section
variable {tx : XC → Addr} {Y : YC} {Γ : List Cell} {te : TE} {α : Type} {d : Dat α}
end
end G
namespace L2
open PySem PySem.Spec PyProof.Rows
/-! ### calls in a suite -/
section
variable {X : Cx} {CXt : CXT} {k : Nat} {f : Addr} {fd : FuncData} {ps : List Str} {sp : Sp} {E : L2.St → XK} {x : Str} {q pos : Pos} {e : Expr} {es : List Expr} {t : TA}
end
end L2
end

noncomputable section
/-! M31: results that hold instances, while lists are borrowed. -/
namespace G
open PySem PySem.Spec PyProof.Rows L2 PySem.W
def TI (o : HO) : Prop := (∃ xs, o = .tup xs) ∨ ∃ C dx fs, o = .ins C dx fs
class ImmI (α : Type) [d : Dat α] : Prop where
  immI : ∀ {C : GCtx} {F H : Hp} {v : V} {x : α}, (∀ a o, H a = some o → TI o → F a = some o) → d.rep C H v x → d.rep C F v x
theorem Reps.immI {α : Type} {d : Dat α} [i : @ImmI α d] {C : GCtx} {F H : Hp} (t : ∀ a o, H a = some o → TI o → F a = some o) : ∀ {vs : List V} {xs : List α}, Reps d C H vs xs → Reps d C F vs xs
  | [], [], _ => trivial
  | _ :: _, _ :: _, h => ⟨i.immI t h.1, Reps.immI t h.2⟩
  | [], _ :: _, h => h.elim
  | _ :: _, [], h => h.elim
instance (priority := low) immI_of {α : Type} {d : Dat α} [i : @Imm α d] : @ImmI α d := @ImmI.mk α d fun t r => i.imm (fun a xs h => t a _ h (.inl ⟨xs, rfl⟩)) r
instance immITup {α : Type} {d : Dat α} [i : @ImmI α d] : @ImmI (Tup α) (dTup (d := d)) := @ImmI.mk _ (dTup (d := d)) fun t ⟨a, vs, e, h, r⟩ => ⟨a, vs, e, h.imp (fun h => t a _ h (.inl ⟨vs, rfl⟩)) id, Reps.immI t r⟩
instance immIPair {α β : Type} {d1 : Dat α} {d2 : Dat β} [i1 : @ImmI α d1] [i2 : @ImmI β d2] : @ImmI (α × β) (dPair (d1 := d1) (d2 := d2)) := @ImmI.mk _ (dPair (d1 := d1) (d2 := d2)) fun t ⟨a, v1, v2, e, h, r1, r2⟩ => ⟨a, v1, v2, e, h.imp (fun h => t a _ h (.inl ⟨_, rfl⟩)) id, i1.immI t r1, i2.immI t r2⟩
instance immIOb2 {α β : Type} {d1 : Dat α} {d2 : Dat β} [i1 : @ImmI α d1] [i2 : @ImmI β d2] {C0 : Addr} {f1 f2 : Str} : @ImmI (Ob2 α β) (dOb2 (d1 := d1) (d2 := d2) C0 f1 f2) :=
  @ImmI.mk _ (dOb2 (d1 := d1) (d2 := d2) C0 f1 f2) fun t ⟨p, dx, v1, v2, e, h, r1, r2⟩ => ⟨p, dx, v1, v2, e, t p _ h (.inr ⟨_, _, _, rfl⟩), i1.immI t r1, i2.immI t r2⟩
/-- mixed data without lists -/
@[reducible] def dMixI {β : Type} (d : Dat β) : Dat (Mix β) := ⟨fun C F v x => match x with
  | .inl y => d.rep C F v y
  | .inr u => noL u = true ∧ DU C F u v, fun {C F F' v x} s h => match x, h with
  | .inl _, h => d.mono s h
  | .inr _, h => ⟨h.1, DU.mono s _ _ h.2⟩⟩
instance immIMix {β : Type} {d : Dat β} [i : @ImmI β d] : @ImmI (Mix β) (dMixI d) := @ImmI.mk _ (dMixI d) fun {C F H v x} t r => match x, r with
  | .inl _, r => i.immI t r
  | .inr u, r => ⟨r.1, DU.imm (fun a xs h => t a _ h (.inl ⟨xs, rfl⟩)) u v r.1 r.2⟩
section
variable {α β γ : Type} {d : Dat α} {d2 : Dat β}
end
/-- what is owned holds no instance -/
class NoIns {α : Type} {d : Dat α} (od : OD α) : Prop where
  no : ∀ {C : GCtx} {F : Hp} {v : V} {x : α} {L : LO}, od.orep C F v x L → ∀ p ∈ L, ¬ ∃ C dx fs, p.2 = .ins C dx fs
instance noList {α : Type} {d : Dat α} : NoIns (oList (d := d)) := ⟨fun ⟨a, vs, e, h, r⟩ p hp => by
  subst h
  rw [List.mem_singleton] at hp
  subst hp
  rintro ⟨_, _, _, z⟩
  cases z⟩
section
variable {tx : XC → Addr} {Y : YC} {Γ : List Cell} {te : TE} {α β : Type} {d : Dat α} {d2 : Dat β}
end
end G
end

noncomputable section
/-! M32: a dict of the top, int keys, texts. -/
namespace L2
open PySem PySem.Spec PyProof.Rows
/-- what stands in such a dict -/
inductive KEnt : List DictEntry → List (Int × Str) → Prop where
  | nil : KEnt [] []
  | cons {es : List DictEntry} {kvs : List (Int × Str)} (k : Int) (z : Str) (t t2 : Tok) (h : Int) (hh : h = hashInt k) (r : KEnt es kvs) : KEnt (⟨h, .int k t, .str z t2⟩ :: es) ((k, z) :: kvs)
theorem KEnt.keys {P : Program} {w : World} : ∀ {es : List DictEntry} {kvs : List (Int × Str)}, KEnt es kvs → ∀ e ∈ es, ∃ k, (intKind P w).is k e.key = true ∧ e.hash = (intKind P w).hash k
  | _, _, .nil => fun e he => by cases he
  | _, _, .cons k z t t2 h hh r => fun e he => by
    rcases List.mem_cons.mp he with rfl | he
    · exact ⟨k, by show Value.isInt k (.int k t) = true; exact beq_self_eq_true k, hh⟩
    · exact r.keys e he
section
variable {X : Cx}
end
end L2
namespace G
open PySem PySem.Spec PyProof.Rows L2 PySem.W
section
variable {tx : XC → Addr} {Y : YC} {Γ : List Cell} {tb : TE}
end
end G
end

noncomputable section
/-! M33: slices of tuples, list(t) of a tuple of unlike data. -/
namespace G
open PySem PySem.Spec PyProof.Rows L2 PySem.W
section
variable {tx : XC → Addr} {Y : YC} {Γ : List Cell} {te : TE} {α β γ : Type} {d1 : Dat α} {d2 : Dat β} {d3 : Dat γ}
/-! d.get(k, ..) -/
variable {d : Dat α} {ta tb tc : TE}
/-! walks over computed tuples -/
end
instance oimOb4 {α β γ δ : Type} {d1 : Dat α} {d2 : Dat β} {d3 : Dat γ} {d4 : Dat δ} [i1 : @Imm α d1] [i2 : @Imm β d2] {o3 : @OD γ d3} {o4 : @OD δ d4} [i3 : @OIm γ d3 o3] [i4 : @OIm δ d4 o4] {C0 : Addr} {f1 f2 f3 f4 : Str} :
    @OIm (Ob4 α β γ δ) (dOb4 (d1 := d1) (d2 := d2) (d3 := d3) (d4 := d4) C0 f1 f2 f3 f4) (oOb4 (d1 := d1) (d2 := d2) (d3 := d3) (d4 := d4) C0 f1 f2 f3 f4 o3 o4) :=
  @OIm.mk _ (dOb4 (d1 := d1) (d2 := d2) (d3 := d3) (d4 := d4) C0 f1 f2 f3 f4) (oOb4 (d1 := d1) (d2 := d2) (d3 := d3) (d4 := d4) C0 f1 f2 f3 f4 o3 o4) (fun t ⟨p, dx, v1, v2, v3, v4, L3, L4, e, h, r1, r2, r3, r4⟩ => ⟨p, dx, v1, v2, v3, v4, L3, L4, e, h, i1.imm t r1, i2.imm t r2, i3.oimm t r3, i4.oimm t r4⟩)
end G
end

set_option maxRecDepth 40000
noncomputable section
/-! M34: plain data whose lists are owned; xs.pop(i) as a statement; xs.count(n); len(set(xs)). -/
namespace G
open PySem PySem.Spec PyProof.Rows L2 PySem.W
mutual
def OUr (C : GCtx) (F : Hp) : PyData → V → LO → Prop
  | .none, v, L => v = .non ∧ L = []
  | .bool b, v, L => v = .bl b ∧ L = []
  | .int i, v, L => v = .int i ∧ L = []
  | .str s, v, L => v = .str s ∧ L = []
  | .list ds, v, L => ∃ a vs L', v = .ref a ∧ L = (a, .lst vs) :: L' ∧ OUrs C F ds vs L'
  | .tuple ds, v, L => ∃ a vs, v = .ref a ∧ TpA C.K F a vs ∧ OUrs C F ds vs L
  | .dict _, _, _ => False
def OUrs (C : GCtx) (F : Hp) : List PyData → List V → LO → Prop
  | [], [], L => L = []
  | d :: ds, v :: vs, L => ∃ L1 L2, L = L1 ++ L2 ∧ OUr C F d v L1 ∧ OUrs C F ds vs L2
  | [], _ :: _, _ => False
  | _ :: _, [], _ => False
end
mutual
theorem OUr.mono {C : GCtx} {F F' : Hp} (s : Same F F') : ∀ (x : PyData) (v : V) (L : LO), OUr C F x v L → OUr C F' x v L
  | .none, _, _, h => h
  | .bool _, _, _, h => h
  | .int _, _, _, h => h
  | .str _, _, _, h => h
  | .list ds, _, _, ⟨a, vs, L', e, e2, r⟩ => ⟨a, vs, L', e, e2, OUrs.mono s ds vs L' r⟩
  | .tuple ds, _, L, ⟨a, vs, e, h, r⟩ => ⟨a, vs, e, h.mono s, OUrs.mono s ds vs L r⟩
  | .dict _, _, _, h => h.elim
theorem OUrs.mono {C : GCtx} {F F' : Hp} (s : Same F F') : ∀ (xs : List PyData) (vs : List V) (L : LO), OUrs C F xs vs L → OUrs C F' xs vs L
  | [], [], _, h => h
  | d :: ds, v :: vs, _, ⟨L1, L2, e, h1, h2⟩ => ⟨L1, L2, e, OUr.mono s d v L1 h1, OUrs.mono s ds vs L2 h2⟩
  | [], _ :: _, _, h => h.elim
  | _ :: _, [], _, h => h.elim
end
mutual
theorem OUr.view {C : GCtx} {F H : Hp} (s : Same F H) : ∀ (x : PyData) (v : V) (L : LO), OUr C F x v L → (∀ p ∈ L, H p.1 = some p.2) → DU C H x v
  | .none, _, _, h, _ => h.1
  | .bool _, _, _, h, _ => h.1
  | .int _, _, _, h, _ => h.1
  | .str _, _, _, h, _ => h.1
  | .list ds, _, _, ⟨a, vs, L', e, e2, r⟩, k => ⟨a, vs, e, .inl (k (a, .lst vs) (by rw [e2]; exact List.mem_cons_self)), OUrs.view s ds vs L' r fun p hp => k p (by rw [e2]; exact List.mem_cons_of_mem _ hp)⟩
  | .tuple ds, _, L, ⟨a, vs, e, h, r⟩, k => ⟨a, vs, e, h.mono s, OUrs.view s ds vs L r k⟩
  | .dict _, _, _, h, _ => h.elim
theorem OUrs.view {C : GCtx} {F H : Hp} (s : Same F H) : ∀ (xs : List PyData) (vs : List V) (L : LO), OUrs C F xs vs L → (∀ p ∈ L, H p.1 = some p.2) → DUs C H xs vs
  | [], [], _, _, _ => trivial
  | d :: ds, v :: vs, _, ⟨L1, L2, e, h1, h2⟩, k => ⟨OUr.view s d v L1 h1 fun p hp => k p (by rw [e]; exact List.mem_append_left _ hp), OUrs.view s ds vs L2 h2 fun p hp => k p (by rw [e]; exact List.mem_append_right _ hp)⟩
  | [], _ :: _, _, h, _ => h.elim
  | _ :: _, [], _, h, _ => h.elim
end
mutual
theorem OUr.noL {C : GCtx} {F : Hp} : ∀ (x : PyData) (v : V), G.noL x = true → DU C F x v → OUr C F x v []
  | .none, _, _, h => ⟨h, rfl⟩
  | .bool _, _, _, h => ⟨h, rfl⟩
  | .int _, _, _, h => ⟨h, rfl⟩
  | .str _, _, _, h => ⟨h, rfl⟩
  | .list _, _, n, _ => by cases n
  | .tuple ds, v, n, ⟨a, vs, e, h, r⟩ => ⟨a, vs, e, h, OUrs.noL ds vs n r⟩
  | .dict _, _, _, h => h.elim
theorem OUrs.noL {C : GCtx} {F : Hp} : ∀ (xs : List PyData) (vs : List V), noLs xs = true → DUs C F xs vs → OUrs C F xs vs []
  | [], [], _, _ => rfl
  | d :: ds, v :: vs, n, h => by
    have n2 : (G.noL d && noLs ds) = true := n
    rw [Bool.and_eq_true] at n2
    exact ⟨[], [], rfl, OUr.noL d v n2.1 h.1, OUrs.noL ds vs n2.2 h.2⟩
  | [], _ :: _, _, h => h.elim
  | _ :: _, [], _, h => h.elim
end
theorem OUrs.at {C : GCtx} {F : Hp} : ∀ {xs : List PyData} {vs : List V} {L : LO} {i : Nat} {x : PyData}, OUrs C F xs vs L → xs[i]? = some x → ∃ v L1 Li L2, vs[i]? = some v ∧ L = L1 ++ Li ++ L2 ∧ OUr C F x v Li ∧ ∀ F' x' Li', Same F F' → OUr C F' x' v Li' → OUrs C F' (xs.set i x') vs (L1 ++ Li' ++ L2)
  | [], [], _, i, _, _, e => by cases i <;> cases e
  | y :: xs, v :: vs, L, 0, x, ⟨L1, L2, e, h1, h2⟩, hx => by
    cases (Option.some.inj hx : y = x)
    exact ⟨v, [], L1, L2, rfl, by simpa using e, h1, fun F' x' Li' s h => ⟨Li', L2, by simp, h, OUrs.mono s _ _ _ h2⟩⟩
  | y :: xs, v :: vs, L, i + 1, x, ⟨L1, L2, e, h1, h2⟩, hx => by
    obtain ⟨w, M1, Mi, M2, e1, e2, h3, f⟩ := OUrs.at (i := i) h2 hx
    exact ⟨w, L1 ++ M1, Mi, M2, e1, by rw [e, e2]; simp [List.append_assoc], h3, fun F' x' Li' s h => ⟨L1, M1 ++ Li' ++ M2, by simp [List.append_assoc], OUr.mono s _ _ _ h1, f F' x' Li' s h⟩⟩
  | [], _ :: _, _, _, _, h, _ => h.elim
  | _ :: _, [], _, _, _, h, _ => h.elim
theorem OUrs.len {C : GCtx} {F : Hp} : ∀ {xs : List PyData} {vs : List V} {L : LO}, OUrs C F xs vs L → vs.length = xs.length
  | [], [], _, _ => rfl
  | _ :: _, _ :: _, _, ⟨_, _, _, _, h2⟩ => by simp [OUrs.len h2]
  | [], _ :: _, _, h => h.elim
  | _ :: _, [], _, h => h.elim
theorem OUrs.append {C : GCtx} {F : Hp} {y : PyData} {w : V} {M : LO} (g : OUr C F y w M) : ∀ {xs : List PyData} {vs : List V} {L : LO}, OUrs C F xs vs L → OUrs C F (xs ++ [y]) (vs ++ [w]) (L ++ M)
  | [], [], _, h => by
    cases (show _ = [] from h)
    exact ⟨M, [], by simp, g, rfl⟩
  | _ :: _, _ :: _, _, ⟨L1, L2, e, h1, h2⟩ => ⟨L1, L2 ++ M, by rw [e, List.append_assoc], h1, OUrs.append g h2⟩
  | [], _ :: _, _, h => h.elim
  | _ :: _, [], _, h => h.elim
/-- plain data, its lists owned -/
@[reducible] def oU : @OD PyData dU := @OD.mk PyData dU (fun C F v x L => OUr C F x v L) (fun s h => OUr.mono s _ _ _ h) (fun h s k => OUr.view s _ _ _ h k)
section
variable {tx : XC → Addr} {Y : YC} {Γ : List Cell} {te ta tb : TE} {α τ : Type} {d : Dat α} {rest : TS} {js : List Nat} {K : Kt τ}
/-! x[k].append(y), x such data -/
/-! xs.pop(i), its answer dropped -/
/-! xs.count(n) of ints -/
end
/-! len(set(xs)) -/
end G
namespace L2
open PySem PySem.Spec PyProof.Rows
section
variable {X : Cx}
end
end L2
namespace G
open PySem PySem.Spec PyProof.Rows L2 PySem.W
section
variable {tx : XC → Addr} {Y : YC} {Γ : List Cell} {ta : TE}
end
end G
end
namespace G
open PySem L2
/-! plain data within pairs -/
instance datU : Dat PyData := dU
instance udU : @UD PyData dU := ⟨fun x => x, fun h => h⟩
end G

/-! M35: try .. except (A, B): suite; try .. except A: suite (without a name). -/
noncomputable section
namespace L2
open PySem PySem.Spec PyProof.Rows
section
variable {X : Cx} {x1 x2 : Str} {c1 c2 : Value} {body suite : List Stmt} {b₀ : Stmt} {np1 np2 tpos pos pos' : Pos} {tb : WX → TS} {ts : Addr → Value → Option Addr → TS} {Wout : WX}
end
end L2
namespace L2
open PySem PySem.Spec PyProof.Rows
section
variable {X : Cx} {x x1 x2 : Str} {c c1 c2 : Value} {body suite : List Stmt} {b₀ : Stmt} {np np1 np2 tpos pos pos' : Pos} {tb : WX → TS} {ts : Addr → Value → Option Addr → TS} {Wout : WX}
end
end L2
namespace G
open PySem PySem.Spec PyProof.Rows L2 PySem.W
section
variable {Y : YC} {Γ : List Cell} {k : Ks}
end
end G
end

/-! M36: xs.index(y) for data. -/
noncomputable section
namespace G
open PySem PySem.Spec PyProof.Rows L2 PySem.W
/-- the data's equality needs no text -/
class DL (α : Type) {d : Dat α} [de : @DE α d] : Prop where
  lay0 : ∀ x, (de.toD x).canLay0 = true
instance dlInt : @DL Int dInt deInt := @DL.mk _ _ deInt fun _ => by simp [DE.toD, PyData.canLay0]
instance dlBool : @DL Bool dBool deBool := @DL.mk _ _ deBool fun _ => by simp [DE.toD, PyData.canLay0]
theorem dlAll {α : Type} {d : Dat α} [de : @DE α d] [dl : @DL α d de] : ∀ xs : List α, PyData.canLayAll0 (xs.map de.toD) = true
  | [] => by simp [PyData.canLayAll0]
  | x :: xs => by simp [PyData.canLayAll0, dl.lay0, dlAll xs]
instance dlList {α : Type} {d : Dat α} [de : @DE α d] [dl : @DL α d de] : @DL (List α) dList deList := @DL.mk _ _ deList fun x => by
  show PyData.canLay0 (.list (x.map de.toD)) = true
  simp [PyData.canLay0, dlAll x]
instance dlPair {α β : Type} {d1 : Dat α} {d2 : Dat β} [de1 : @DE α d1] [de2 : @DE β d2] [dl1 : @DL α d1 de1] [dl2 : @DL β d2 de2] : @DL (α × β) dPair dePair := @DL.mk _ _ dePair fun x => by
  show PyData.canLay0 (.tuple [de1.toD x.1, de2.toD x.2]) = true
  simp [PyData.canLay0, PyData.canLayAll0, dl1.lay0, dl2.lay0]
instance dlT4 {α β γ δ : Type} {d1 : Dat α} {d2 : Dat β} {d3 : Dat γ} {d4 : Dat δ} [de1 : @DE α d1] [de2 : @DE β d2] [de3 : @DE γ d3] [de4 : @DE δ d4] [dl1 : @DL α d1 de1] [dl2 : @DL β d2 de2] [dl3 : @DL γ d3 de3] [dl4 : @DL δ d4 de4] : @DL (T4 α β γ δ) dT4 deT4 := @DL.mk _ _ deT4 fun x => by
  show PyData.canLay0 (.tuple [de1.toD x.a, de2.toD x.b, de3.toD x.c, de4.toD x.d]) = true
  simp [PyData.canLay0, PyData.canLayAll0, dl1.lay0, dl2.lay0, dl3.lay0, dl4.lay0]
/-- the first place of an equal one -/
def M.idx {α : Type} [DecidableEq α] (xs : List α) (y : α) : M Int := M.ofO ((xs.findIdx? fun z => decide (z = y)).map fun j => (j : Int))
section
variable {tx : XC → Addr} {Y : YC} {Γ : List Cell} {ta tb : TE} {α : Type} {d : Dat α}
end
/-! a slice of an owned list -/
section
variable {tx : XC → Addr} {Y : YC} {Γ : List Cell} {te : TE} {α : Type} {d : Dat α}
end
end G
namespace L2
open PySem PySem.Spec PyProof.Rows
section
variable {X : Cx}
end
end L2
end

/-! M37: own operators: a + b of two instances of one class, ~a, -a, and the call of an instance. -/
namespace G
open PySem PySem.Spec PyProof.Rows L2 PySem.W
section
variable {prog : Program} {w : World} {A : Around} {E : Value → Shared → Prop} {s : Shared} {K : Frag} {x y C L f : Addr} {h₀ : Heap} {m : Str → Option Value} {ox oy : Obj} {od od2 : Option Obj}
end
section
variable {X : Cx} {CXt : CXT} {k : Nat} {f C : Addr} {fd : FuncData} {ps : List Str} {sp : Sp} {E : L2.St → XK} {pos : Pos} {e o fe a b : Expr} {es : List Expr} {ta tb : TE} {t : TA}
end
/-! readings -/
section
variable {Y : YC} {Γ : List Cell} {ta tb : TE} {tl : TA} {α β γ : Type} {d : Dat α} {d2 : Dat β} {d1 : Dat γ} {C0 : Addr} {ns ns2 : List Str} {sp : Sp} {E : L2.St → XK} {BA : List V → Hp → Prop}
end
section
variable {tx : XC → Addr} {Y : YC} {Γ : List Cell} {β : Type} {d : Dat β} {t0 t1 t2 t3 : TE} {sp : Sp} {E : L2.St → XK}
variable {α0 α1 α2 α3 : Type} {d0 : Dat α0} {d1 : Dat α1} {d2 : Dat α2} {d3 : Dat α3} {m0 : M α0} {m1 : M α1} {m2 : M α2} {m3 : M α3} {C0 : Addr} {ns ns2 : List Str}
end
section
variable {tx : XC → Addr} {Y : YC} {Γ : List Cell} {t : TT} {τ : Type} {t1 t2 rest : TS} {js : List Nat} {K : Kt τ}
end
end G

noncomputable section
/-! M38: for x in xs: x.append(n). -/
namespace G
open PySem PySem.Spec PyProof.Rows L2 PySem.W
section
variable {tx : XC → Addr} {Y : YC} {Γ : List Cell} {te : TE} {τ : Type} {rest : TS} {js : List Nat} {K : Kt τ} {k : Ks}
end
end G
end

noncomputable section
/-! M39: {key: value for ..} with values that are not owned, over lists, tuples and enumerate. -/
namespace G
open PySem PySem.Spec PyProof.Rows L2 PySem.W
section
variable {tx : XC → Addr} {Y : YC} {Γ : List Cell} {te ta tb tl tk tv : TE} {t u tt : TT} {α β : Type} {d : Dat α} {d2 : Dat β} {g : TG}
end
end G
end

noncomputable section
/-! M40: list(o), o an instance whose __iter__ gives an iterator over a tuple that it holds. -/
namespace G
open PySem PySem.Spec PyProof.Rows L2 PySem.W
section
variable {X : Cx} {pins : List (Addr × Obj)} {σ : L2.St} {A1 : Around}
end
section
variable {X : Cx} {CXt : CXT} {k : Nat} {g C : Addr} {fd : FuncData} {ps : List Str} {f : Str}
end
section
variable {tx : XC → Addr} {Y : YC} {Γ : List Cell} {te : TE} {α β : Type} {d : Dat α} {d2 : Dat β} {C0 : Addr} {f : Str}
end
end G
end

noncomputable section
/-! M41: sorted(xs) for data: whole numbers, pairs, lists of these. -/
namespace G
open PySem PySem.Spec PyProof.Rows L2 PySem.W
/-- data that stand in one order -/
class DO (α : Type) {d : Dat α} [de : @DE α d] : Prop where
  alk : ∀ x y, alike (de.toD x) (de.toD y) = true
/-- what sorted asks of the items -/
class DSo (α : Type) {d : Dat α} [de : @DE α d] : Prop where
  so : (∀ x, ∃ y r, de.toD x = .tuple (y :: r)) ∨ ∀ x, de.toD x ≠ .none ∧ ∀ xs, de.toD x ≠ .tuple xs
instance doInt : @DO Int dInt deInt := @DO.mk _ _ deInt fun x y => rfl
theorem alk_all {α : Type} {d : Dat α} [de : @DE α d] [o : @DO α d de] : ∀ xs ys : List α, alikeAll (xs.map de.toD) (ys.map de.toD) = true
  | [], [] => by simp [alikeAll]
  | [], _ :: _ => by simp [alikeAll]
  | _ :: _, [] => by simp [alikeAll]
  | x :: xs, y :: ys => by
    simp only [List.map_cons, alikeAll, Bool.and_eq_true]
    exact ⟨o.alk x y, alk_all xs ys⟩
instance doList {α : Type} {d : Dat α} [de : @DE α d] [o : @DO α d de] : @DO (List α) dList deList := @DO.mk _ _ deList fun x y => by
  show alike (.list (x.map de.toD)) (.list (y.map de.toD)) = true
  rw [alike]
  exact alk_all x y
instance doPair {α β : Type} {d1 : Dat α} {d2 : Dat β} [de1 : @DE α d1] [de2 : @DE β d2] [o1 : @DO α d1 de1] [o2 : @DO β d2 de2] : @DO (α × β) dPair dePair := @DO.mk _ _ dePair fun x y => by
  show alike (.tuple [de1.toD x.1, de2.toD x.2]) (.tuple [de1.toD y.1, de2.toD y.2]) = true
  rw [alike]
  simp [alikeAll, o1.alk, o2.alk]
instance soList {α : Type} {d : Dat α} [de : @DE α d] : @DSo (List α) dList deList := @DSo.mk _ _ deList (.inr fun x => And.intro (fun z => nomatch (show PyData.list (x.map de.toD) = .none from z)) fun xs z => nomatch (show PyData.list (x.map de.toD) = .tuple xs from z))
instance soPair {α β : Type} {d1 : Dat α} {d2 : Dat β} [de1 : @DE α d1] [de2 : @DE β d2] : @DSo (α × β) dPair dePair := @DSo.mk _ _ dePair (.inl fun x => ⟨_, _, rfl⟩)
/-- x before y -/
class OLt (α : Type) where
  lt : α → α → Bool
instance ltInt : OLt Int := ⟨fun a b => decide (a < b)⟩
instance ltPair {α β : Type} [DecidableEq α] [OLt α] [OLt β] : OLt (α × β) := ⟨fun x y => if x.1 = y.1 then OLt.lt x.2 y.2 else OLt.lt x.1 y.1⟩
def ltL {α : Type} [DecidableEq α] [OLt α] : List α → List α → Bool
  | _, [] => false
  | [], _ :: _ => true
  | x :: xs, y :: ys => if x = y then ltL xs ys else OLt.lt x y
instance ltList {α : Type} [DecidableEq α] [OLt α] : OLt (List α) := ⟨ltL⟩
class DLt (α : Type) {d : Dat α} [de : @DE α d] [OLt α] : Prop where
  is : ∀ x y, dataLt (de.toD x) (de.toD y) = OLt.lt x y
instance dltInt : @DLt Int dInt deInt _ := @DLt.mk _ _ deInt _ fun x y => dataLt_int x y
theorem dataLt_self (d : PyData) : dataLt d d = false := by
  unfold dataLt
  exact lex_irrefl _
instance dltPair {α β : Type} [DecidableEq α] [OLt α] [OLt β] {d1 : Dat α} {d2 : Dat β} [de1 : @DE α d1] [de2 : @DE β d2] [o1 : @DO α d1 de1] [o2 : @DO β d2 de2] [l1 : @DLt α d1 de1 _] [l2 : @DLt β d2 de2 _] : @DLt (α × β) dPair dePair _ := @DLt.mk _ _ dePair _ fun x y => by
  show dataLt (.tuple [de1.toD x.1, de2.toD x.2]) (.tuple [de1.toD y.1, de2.toD y.2]) = if x.1 = y.1 then OLt.lt x.2 y.2 else OLt.lt x.1 y.1
  rw [dataLt_pair (o1.alk _ _) (o2.alk _ _)]
  by_cases h1 : x.1 = y.1
  · rw [if_pos ((de1.eqv _ _).mpr h1), if_pos h1]
    by_cases h2 : x.2 = y.2
    · rw [if_pos ((de2.eqv _ _).mpr h2), ← l2.is, h2, dataLt_self]
    · rw [if_neg (fun z => h2 ((de2.eqv _ _).mp z)), l2.is]
  · rw [if_neg (fun z => h1 ((de1.eqv _ _).mp z)), if_neg h1, l1.is]
theorem dlt_all {α : Type} [DecidableEq α] [OLt α] {d : Dat α} [de : @DE α d] [o : @DO α d de] [l : @DLt α d de _] : ∀ xs ys : List α, PyProof.Rows.lexLt itemOrd (keyToksAll (xs.map de.toD)) (keyToksAll (ys.map de.toD)) = ltL xs ys
  | [], [] => by
    simp only [List.map_nil, keyToksAll, ltL]
    rfl
  | [], y :: ys => by
    simp only [List.map_nil, List.map_cons, keyToksAll, ltL]
    rw [lex_diff (O := itemOrd) (fun z => by cases z)]
    rfl
  | x :: xs, [] => by
    simp only [List.map_nil, List.map_cons, keyToksAll, ltL]
    rw [lex_diff (O := itemOrd) (fun z => by cases z)]
    rfl
  | x :: xs, y :: ys => by
    rw [List.map_cons, List.map_cons, dataLt_cons (o.alk x y), ltL]
    by_cases h : x = y
    · rw [if_pos ((de.eqv _ _).mpr h), if_pos h]
      exact dlt_all xs ys
    · rw [if_neg (fun z => h ((de.eqv _ _).mp z)), if_neg h, l.is]
instance dltList {α : Type} [DecidableEq α] [OLt α] {d : Dat α} [de : @DE α d] [o : @DO α d de] [l : @DLt α d de _] : @DLt (List α) dList deList _ := @DLt.mk _ _ deList _ fun x y => by
  show dataLt (.list (x.map de.toD)) (.list (y.map de.toD)) = ltL x y
  rw [dataLt_list]
  exact dlt_all x y
section
variable {X : Cx}
end
section
variable {tx : XC → Addr} {Y : YC} {Γ : List Cell} {te : TE} {α : Type} {d : Dat α}
end
end G
end

noncomputable section
/-! M42: a, b = xs.pop(), a, b = xs.pop(i). -/
namespace G
open PySem PySem.Spec PyProof.Rows L2 PySem.W
section
variable {tx : XC → Addr} {Y : YC} {Γ : List Cell} {ta te : TE} {α τ : Type} {d : Dat α} {g : TG} {rest : TS} {js : List Nat} {K : Kt τ} {k : Ks}
end
end G
end

noncomputable section
/-! M43: a static method by an instance. -/
namespace G
open PySem PySem.Spec PyProof.Rows L2 PySem.W
section
variable {X : Cx} {CXt : CXT} {k : Nat} {C g p : Addr} {fd : FuncData} {ps : List Str} {sp : Sp} {E : L2.St → XK} {m : Str} {apos pos : Pos} {e o : Expr} {es : List Expr} {ta : TE} {t : TA} {pl : Sem Bool}
end
section
variable {Y : YC} {Γ : List Cell} {ta : TE} {tl : TA} {α β : Type} {d : Dat α} {d2 : Dat β} {C0 : Addr} {m : Str} {ns : List Str} {sp : Sp} {E : L2.St → XK}
end
section
variable {tx : XC → Addr} {Y : YC} {Γ : List Cell} {β : Type} {d : Dat β} {t0 t1 t2 : TE} {sp : Sp} {E : L2.St → XK}
variable {α0 α1 α2 : Type} {d0 : Dat α0} {d1 : Dat α1} {d2 : Dat α2} {m0 : M α0} {m1 : M α1} {m2 : M α2} {C0 : Addr} {mn : Str} {ns : List Str}
end
end G
end

noncomputable section
/-! M44: xs += (a, b) (a list and a pair of its items' type). -/
namespace G
open PySem PySem.Spec PyProof.Rows L2 PySem.W PySem.AutoSeq1
section
variable {Y : YC} {Γ : List Cell} {te : TE} {α : Type} {d : Dat α} {k : Ks}
end
section
variable {tx : XC → Addr} {Y : YC} {Γ : List Cell} {te : TE} {α τ : Type} {d : Dat α} {K : Kt τ} {rest : TS} {js : List Nat}
end
end G

noncomputable section
/-! M45: return sorted(xs) of a name whose list owns its parts. -/
namespace G
open PySem PySem.Spec PyProof.Rows L2 PySem.W
section
variable {α : Type} {d : Dat α}
variable {Y : YC} {Γ : List Cell} {k : Ks}
end
section
variable {tx : XC → Addr} {Y : YC} {Γ : List Cell} {α : Type} {d : Dat α} {rest : TS} {js : List Nat}
end
end G

noncomputable section
/-! M46: triples that own their parts; str + str. -/
namespace G
open PySem PySem.Spec PyProof.Rows L2 PySem.W
@[reducible] def oT3 {α β γ : Type} {d1 : Dat α} {d2 : Dat β} {d3 : Dat γ} (od1 : @OD α d1) (od2 : @OD β d2) (od3 : @OD γ d3) : @OD (T3 α β γ) (dT3 (d1 := d1) (d2 := d2) (d3 := d3)) := @OD.mk (T3 α β γ) (dT3 (d1 := d1) (d2 := d2) (d3 := d3))
  (fun C F v x L => ∃ a v1 v2 v3 L1 L2 L3, v = .ref a ∧ L = L1 ++ (L2 ++ L3) ∧ TpA C.K F a [v1, v2, v3] ∧ od1.orep C F v1 x.a L1 ∧ od2.orep C F v2 x.b L2 ∧ od3.orep C F v3 x.c L3)
  (fun s ⟨a, v1, v2, v3, L1, L2, L3, e, h, t, r1, r2, r3⟩ => ⟨a, v1, v2, v3, L1, L2, L3, e, h, t.mono s, od1.omono s r1, od2.omono s r2, od3.omono s r3⟩)
  (fun ⟨a, v1, v2, v3, L1, L2, L3, e, h, t, r1, r2, r3⟩ s k => ⟨a, v1, v2, v3, e, t.mono s, od1.view r1 s fun p hp => k p (by rw [h]; simp [hp]), od2.view r2 s fun p hp => k p (by rw [h]; simp [hp]), od3.view r3 s fun p hp => k p (by rw [h]; simp [hp])⟩)
section
variable {Y : YC} {Γ : List Cell} {k : Ks} {te : TE} {α β γ : Type} {d1 : Dat α} {d2 : Dat β} {d3 : Dat γ}
end
section
variable {tx : XC → Addr} {Y : YC} {Γ : List Cell} {te ta tb : TE} {α β γ τ : Type} {d1 : Dat α} {d2 : Dat β} {d3 : Dat γ} {rest : TS} {js : List Nat} {K : Kt τ}
/-! texts -/
def rCatS : R2 := fun x y H Q => ∃ i j, x = V.str i ∧ y = V.str j ∧ i.length + j.length ≤ PySem.sizeLine ∧ Q (.str (i ++ j)) H
theorem op_catS {X : Cx} : OpR X (binaryOp .Add) rCatS := op_add_str
theorem w_catS {k : Str → Prop} (h : W Y ta Γ dStr fun x => W Y tb Γ dStr fun y => x.length + y.length ≤ PySem.sizeLine ∧ k (x ++ y)) : W Y (tOp rCatS ta tb) Γ dStr k := fun e F σ H s Q q => h e F σ H s _ fun v1 F1 H1 x h1 g1 r1 => h1 e F1 σ H1 (s.grow g1) _ fun v2 F2 H2 y ⟨hl, ky⟩ g2 r2 => by
  cases (show v1 = .str x from r1)
  cases (show v2 = .str y from r2)
  exact ⟨x, y, rfl, rfl, hl, q _ F2 H2 _ ky (g1.trans g2) rfl⟩
def M.catS (x y : Str) : M Str := M.asrt (x.length + y.length ≤ PySem.sizeLine) (.ok (x ++ y))
theorem we_catS {m1 m2 : M Str} (h : We tx Y ta Γ dStr m1) (h2 : We tx Y tb Γ dStr m2) : We tx Y (tOp rCatS ta tb) Γ dStr (m1 >>= fun x => m2 >>= fun y => M.catS x y) := fun nb xk =>
  w_catS (h.k nb xk fun x e nb2 xk2 => h2.k nb2 xk2 fun y e2 nb3 xk3 => by
    have hl := M.asrt_nb nb3
    exact ⟨hl, by rw [e]; simp only [M.ok_bind]; rw [e2]; exact M.asrt_pos hl⟩)
end
section
variable {tx : XC → Addr} {Y : YC} {Γ : List Cell} {ta : TE}
end
section
variable {tx : XC → Addr} {Y : YC} {Γ : List Cell} {tl : TA} {g : TG} {α β τ : Type} {d : Dat α} {K : Kt τ} {rest : TS} {js : List Nat}
end
end G

noncomputable section
/-! M47: [*xs, y, z]; tuple(xs) as a pair. -/
namespace G
open PySem PySem.Spec PyProof.Rows L2 PySem.W ClX StX
section
variable {tx : XC → Addr} {Y : YC} {Γ : List Cell} {te ta tb : TE} {α : Type} {d : Dat α}
end
end G

noncomputable section
/-! M48: while (x := ..) != y; t3[:2]. -/
namespace G
open PySem PySem.Spec PyProof.Rows L2 PySem.W
section
variable {tx : XC → Addr} {Y : YC} {Γ : List Cell} {te : TE} {i j : Nat} {α β γ : Type} {d1 : Dat α} {d2 : Dat β} {d3 : Dat γ}
variable {d : Dat α} {τ : Type} {rest : TS} {js : List Nat} {K : Kt τ} {k : Ks}
end
end G
end

noncomputable section
/-! M49: None or owned data; return (a, xs) as plain data, xs owned; list(x) of plain data. -/
namespace G
open PySem PySem.Spec PyProof.Rows L2 PySem.W
/-- None, or what is owned -/
@[reducible] def oOpt {α : Type} {d : Dat α} (od : @OD α d) : @OD (Opt α) (dOpt (d := d)) := @OD.mk (Opt α) (dOpt (d := d))
  (fun C F v x L => match x with | .none => v = .non ∧ L = [] | .some y => od.orep C F v y L)
  (fun {C F F' v x L} s h => match x, h with | .none, h => h | .some _, h => od.omono s h)
  (fun {C F H v x L} h s k => match x, h with | .none, h => h.1 | .some _, h => od.view h s k)
section
variable {tx : XC → Addr} {Y : YC} {Γ : List Cell} {te ta : TE} {i : Nat} {α β τ : Type} {d : Dat α} {od : @OD α d} {ts rest : TS} {js : List Nat} {K : Kt τ}
end
/-! plain data without lists, plain data whose lists are owned -/
mutual
theorem OUr.imm {C : GCtx} {F H : Hp} (t : ∀ a xs, H a = some (.tup xs) → F a = some (.tup xs)) : ∀ (x : PyData) (v : V) (L : LO), OUr C H x v L → OUr C F x v L
  | .none, _, _, h => h
  | .bool _, _, _, h => h
  | .int _, _, _, h => h
  | .str _, _, _, h => h
  | .list ds, _, _, ⟨a, vs, L', e, e2, r⟩ => ⟨a, vs, L', e, e2, OUrs.imm t ds vs L' r⟩
  | .tuple ds, _, L, ⟨a, vs, e, h, r⟩ => ⟨a, vs, e, h.imp (t a vs) id, OUrs.imm t ds vs L r⟩
  | .dict _, _, _, h => h.elim
theorem OUrs.imm {C : GCtx} {F H : Hp} (t : ∀ a xs, H a = some (.tup xs) → F a = some (.tup xs)) : ∀ (xs : List PyData) (vs : List V) (L : LO), OUrs C H xs vs L → OUrs C F xs vs L
  | [], [], _, h => h
  | d :: ds, v :: vs, _, ⟨L1, L2, e, h1, h2⟩ => ⟨L1, L2, e, OUr.imm t d v L1 h1, OUrs.imm t ds vs L2 h2⟩
  | [], _ :: _, _, h => h.elim
  | _ :: _, [], _, h => h.elim
end
instance oimU : @OIm PyData dU oU := @OIm.mk PyData dU oU fun t h => OUr.imm t _ _ _ h
instance udUI : @UD PyData dUI := @UD.mk PyData dUI (fun x => x) fun h => h.2
instance ouUI : @OU PyData dUI := @OU.mk PyData dUI (fun x => if noL x then some x else none) fun {C F v x y} h r => by
  split at h
  · cases h
    exact ⟨by assumption, r⟩
  · cases h
section
variable {tx : XC → Addr} {Y : YC} {Γ : List Cell} {te : TE}
end
end G
end

noncomputable section
/-! M50: xs < ys of data in one order. -/
namespace G
open PySem PySem.Spec PyProof.Rows L2 PySem.W
section
variable {X : Cx} {K : PySem.W.Frag}
end
section
variable {tx : XC → Addr} {Y : YC} {Γ : List Cell} {ta tb : TE} {α : Type} {d : Dat α}
end
end G
end

noncomputable section
/-! M51: None or data, read as the data. -/
namespace G
open PySem PySem.Spec PyProof.Rows L2 PySem.W
section
variable {tx : XC → Addr} {Y : YC} {Γ : List Cell} {te : TE} {α : Type} {d : Dat α}
end
end G
end

noncomputable section
/-! M52: list(xs) of an owned name whose items are frozen. -/
namespace G
open PySem PySem.Spec PyProof.Rows L2 PySem.W
section
variable {tx : XC → Addr} {Y : YC} {Γ : List Cell} {i : Nat} {α : Type} {d : Dat α}
end
end G
end

noncomputable section
/-! M53: xs.clear(). -/
namespace G
open PySem PySem.Spec PyProof.Rows L2 PySem.W
end G
end

noncomputable section
/-! M54: dicts keyed by tuples of ints. -/
namespace G
open PySem PySem.Spec PyProof.Rows L2 PySem.W
/-- what may be a key: tuples of ints -/
class KeyD (κ : Type) (d : Dat κ) where
  key : κ → List L2.Key
  inj : ∀ {a b : κ}, key a = key b → a = b
  rd : ∀ {C : GCtx} {F : Hp} {v : V} {k : κ}, d.rep C F v k → ∃ a, v = .ref a ∧ F a = some (.tup ((key k).map kV))
theorem tpa_int {K : Frag} {F : Hp} {a : Addr} {xs : List V} (h : TpA K F a xs) (n : xs = [] ∨ ∃ i, V.int i ∈ xs) : F a = some (.tup xs) := by
  rcases h with h | ⟨_, h1, h2⟩
  · exact h
  · rcases n with n | ⟨i, n⟩
    · exact absurd n h1
    · obtain ⟨t, z⟩ := h2 _ n
      cases z
instance kyPair : KeyD (Int × Int) (dPair (d1 := dInt) (d2 := dInt)) where
  key p := [Sum.inl p.1, Sum.inl p.2]
  inj := by
    intro a b h
    simp only [List.cons.injEq, Sum.inl.injEq, and_true] at h
    exact Prod.ext h.1 h.2
  rd := fun ⟨a, v1, v2, e, h, r1, r2⟩ => by
    cases (show v1 = .int _ from r1)
    cases (show v2 = .int _ from r2)
    exact ⟨a, e, tpa_int h (.inr ⟨_, List.mem_cons_self⟩)⟩
instance kyTup : KeyD (Tup Int) (dTup (d := dInt)) where
  key t := t.l.map Sum.inl
  inj := by
    intro a b h
    obtain ⟨a⟩ := a
    obtain ⟨b⟩ := b
    have inj : ∀ {a b : List Int}, a.map (Sum.inl : Int → L2.Key) = b.map Sum.inl → a = b := by
      intro a
      induction a with
      | nil => intro b h; cases b with | nil => rfl | cons => cases h
      | cons x a ih =>
        intro b h
        cases b with
        | nil => cases h
        | cons y b =>
          rw [List.map_cons, List.map_cons, List.cons.injEq] at h
          rw [Sum.inl.inj h.1, ih h.2]
    have e : a = b := inj h
    subst e
    rfl
  rd := fun {C F v k} ⟨a, vs, e, h, r⟩ => by
    have e2 := r.ints
    subst e2
    refine ⟨a, e, ?_⟩
    have : ((k.l.map Sum.inl : List L2.Key)).map kV = k.l.map V.int := by rw [List.map_map]; rfl
    rw [this]
    refine tpa_int h ?_
    cases k.l with
    | nil => exact .inl rfl
    | cons i l => exact .inr ⟨i, by simp⟩
structure DK (κ α : Type) where
  kv : List (κ × α)
def lkD {κ α : Type} [DecidableEq κ] : List (κ × α) → κ → Option α
  | [], _ => none
  | p :: r, k => if p.1 = k then some p.2 else lkD r k
def putD {κ α : Type} [DecidableEq κ] (kv : List (κ × α)) (k : κ) (v : α) : List (κ × α) := if (lkD kv k).isSome then kv.map (fun p => if p.1 = k then (p.1, v) else p) else kv ++ [(k, v)]
def TReps {κ β : Type} {dk : Dat κ} (ky : KeyD κ dk) (d : Dat β) (C : GCtx) (F : Hp) : List (List L2.Key × V) → List (κ × β) → Prop
  | [], [] => True
  | p :: ps, x :: xs => p.1 = ky.key x.1 ∧ d.rep C F p.2 x.2 ∧ TReps ky d C F ps xs
  | _, _ => False
section
variable {κ α : Type} [DecidableEq κ] {dk : Dat κ} {ky : KeyD κ dk} {d : Dat α} {C : GCtx} {F F' : Hp}
theorem TReps.mono (s : Same F F') : ∀ {ps : List (List L2.Key × V)} {xs : List (κ × α)}, TReps ky d C F ps xs → TReps ky d C F' ps xs
  | [], [], _ => trivial
  | _ :: _, _ :: _, h => ⟨h.1, d.mono s h.2.1, TReps.mono s h.2.2⟩
  | [], _ :: _, h => h.elim
  | _ :: _, [], h => h.elim
theorem TReps.len : ∀ {ps : List (List L2.Key × V)} {xs : List (κ × α)}, TReps ky d C F ps xs → ps.length = xs.length
  | [], [], _ => rfl
  | _ :: _, _ :: _, h => by simp [TReps.len h.2.2]
  | [], _ :: _, h => h.elim
  | _ :: _, [], h => h.elim
theorem TReps.look : ∀ {ps : List (List L2.Key × V)} {xs : List (κ × α)} (k : κ), TReps ky d C F ps xs → (∀ x, lkD xs k = some x → ∃ v, valV ps (ky.key k) = some v ∧ d.rep C F v x) ∧ (lkD xs k = none → valV ps (ky.key k) = none)
  | [], [], k, _ => ⟨fun _ h => (nomatch h), fun _ => rfl⟩
  | p :: ps, x :: xs, k, h => by
    rw [valV_cons, h.1]
    unfold lkD
    by_cases hk : x.1 = k
    · rw [if_pos hk, if_pos (by rw [hk])]
      exact ⟨fun y e => ⟨p.2, rfl, by cases e; exact h.2.1⟩, fun z => (nomatch z)⟩
    · rw [if_neg hk, if_neg (fun z => hk (ky.inj z))]
      exact TReps.look k h.2.2
  | [], _ :: _, _, h => h.elim
  | _ :: _, [], _, h => h.elim
theorem TReps.snoc {v : V} {x : α} {k : κ} : ∀ {ps : List (List L2.Key × V)} {xs : List (κ × α)}, TReps ky d C F ps xs → d.rep C F v x → TReps ky d C F (ps ++ [(ky.key k, v)]) (xs ++ [(k, x)])
  | [], [], _, h => ⟨rfl, h, trivial⟩
  | _ :: _, _ :: _, h, h2 => ⟨h.1, h.2.1, TReps.snoc h.2.2 h2⟩
  | [], _ :: _, h, _ => h.elim
  | _ :: _, [], h, _ => h.elim
theorem TReps.map_put {v : V} {x : α} {k : κ} : ∀ {ps : List (List L2.Key × V)} {xs : List (κ × α)}, TReps ky d C F ps xs → d.rep C F v x → TReps ky d C F (ps.map fun kv => if kv.1 = ky.key k then (kv.1, v) else kv) (xs.map fun p => if p.1 = k then (p.1, x) else p)
  | [], [], _, _ => trivial
  | p :: ps, y :: ys, h, h2 => by
    rw [List.map_cons, List.map_cons]
    refine ⟨?_, ?_, TReps.map_put h.2.2 h2⟩
    · by_cases e : y.1 = k
      · rw [if_pos e, if_pos (by rw [h.1, e])]; exact h.1
      · rw [if_neg e, if_neg (fun z => e (ky.inj (h.1.symm.trans z)))]; exact h.1
    · by_cases e : y.1 = k
      · rw [if_pos e, if_pos (by rw [h.1, e])]; exact h2
      · rw [if_neg e, if_neg (fun z => e (ky.inj (h.1.symm.trans z)))]; exact h.2.1
  | [], _ :: _, h, _ => h.elim
  | _ :: _, [], h, _ => h.elim
theorem TReps.put {ps : List (List L2.Key × V)} {xs : List (κ × α)} {v : V} {x : α} {k : κ} (h : TReps ky d C F ps xs) (hv : d.rep C F v x) : TReps ky d C F (putK ps (ky.key k) v) (putD xs k x) := by
  unfold putK putD
  have l := h.look k
  rw [valV_any]
  cases q : lkD xs k with
  | none =>
    rw [l.2 q, if_neg (fun z => (nomatch z)), if_neg (fun z => (nomatch z))]
    exact h.snoc hv
  | some y =>
    obtain ⟨w, hw, _⟩ := l.1 y q
    rw [hw]
    exact h.map_put hv
end
@[reducible] def dDK {κ α : Type} {dk : Dat κ} {ky : KeyD κ dk} {d : Dat α} : Dat (DK κ α) := ⟨fun C F v x => ∃ a ps, v = .ref a ∧ Rd F a (.dT ps) ∧ TReps ky d C F ps x.kv, fun {C F F' v x} m ⟨a, ps, e, h, r⟩ => ⟨a, ps, e, Same.rd m h, by
  have mono : ∀ {ps : List (List L2.Key × V)} {xs : List (κ × α)}, TReps ky d C F ps xs → TReps ky d C F' ps xs := by
    intro ps
    induction ps with
    | nil => intro xs h; cases xs with | nil => trivial | cons => exact h.elim
    | cons p ps ih => intro xs h; cases xs with | nil => exact h.elim | cons x xs => exact ⟨h.1, d.mono m h.2.1, ih h.2.2⟩
  exact mono r⟩⟩
theorem TReps.mono' {κ α : Type} {dk : Dat κ} {ky : KeyD κ dk} {d : Dat α} {C : GCtx} {F F' : Hp} (m : Same F F') : ∀ {ps : List (List L2.Key × V)} {xs : List (κ × α)}, TReps ky d C F ps xs → TReps ky d C F' ps xs
  | [], [], _ => trivial
  | _ :: _, _ :: _, h => ⟨h.1, d.mono m h.2.1, TReps.mono' m h.2.2⟩
  | [], _ :: _, h => h.elim
  | _ :: _, [], h => h.elim
@[reducible] def oDK {κ α : Type} {dk : Dat κ} {ky : KeyD κ dk} {d : Dat α} : @OD (DK κ α) (dDK (ky := ky) (d := d)) := @OD.mk (DK κ α) (dDK (ky := ky) (d := d))
  (fun C F v x L => ∃ a ps, v = .ref a ∧ L = [(a, .dT ps)] ∧ TReps ky d C F ps x.kv)
  (fun m ⟨a, ps, e, h, r⟩ => ⟨a, ps, e, h, TReps.mono' m r⟩)
  (fun ⟨a, ps, e, h, r⟩ m k => ⟨a, ps, e, .inl (k (a, .dT ps) (by rw [h]; exact List.mem_cons_self)), TReps.mono' m r⟩)
section
variable {tx : XC → Addr} {Y : YC} {Γ : List Cell} {te ta tb tc tk tv : TE} {κ α τ : Type} [DecidableEq κ] {dk : Dat κ} {ky : KeyD κ dk} {d : Dat α} {js : List Nat} {rest : TS} {K : Kt τ}
end
end G
end

noncomputable section
/-! M55: lists of owned lists: comprehensions that make them, pop, +=; an item that has been handed in and is still read. -/
namespace G
open PySem PySem.Spec PyProof.Rows L2 PySem.W
section
variable {α β τ : Type} {d : Dat α} {d2 : Dat β} {tx : XC → Addr} {Y : YC} {Γ : List Cell} {ti : _root_.L2.TI} {tt : TT} {te ta tl : TE} {g : TG} {vs : List Nat} {rest ts : TS} {js : List Nat} {K : Kt τ} {k : Ks}
/-! comprehensions -/
def IcO (tx : XC → Addr) (Y : YC) (ti : _root_.L2.TI) (Γ : List Cell) {α : Type} (d : Dat α) (m : M (List α)) : Prop := m.nb → XkM tx Y Γ m → ∀ {β : Type} {d2 : Dat β} (od : @OD β d2) (g : TG) (tt : TT) (te : TE) (vs : List Nat) (kx : List β → Prop), (Tg g vs ∧ MoG g) →
  (∀ xs, m = .ok xs → xs.length ≤ PySem.sizeLine → CompO Y g tt te d od kx (fun i => xs[i]?) xs.length (wipeC Γ vs)) → O Y (tLc ti g tt te vs) Γ (oDeep od) kx
theorem oe_lcO {od : @OD β d2} {m0 : M (List α)} {p : α → M Bool} {f : α → M β} (hT : Tg g vs ∧ MoG g) (h : IcO tx Y ti Γ d m0) (hb : ∀ x, A Y g (wipeC Γ vs) d x fun Γ2 => Te tx (calm Y.g) tt Γ2 (p x) ∧ Oe tx (calm Y.g) te Γ2 od (f x)) :
    Oe tx Y (tLc ti g tt te vs) Γ (oDeep od) (m0 >>= M.comp p f) := fun nb xk => h (M.nb1 nb) xk.l od g tt te vs _ hT fun xs e hz => by
  have nb2 : (M.comp p f xs).nb := M.nb2 nb e
  refine ⟨fun i ys => M.comp p f (xs.take i) = .ok ys ∧ ys.length ≤ i, ⟨rfl, Nat.le_refl _⟩, fun i x ys hx ⟨hi, hl⟩ => ?_, fun ys ⟨hi, _⟩ => ?_⟩
  · have hx' : xs[i]? = some x := hx
    have hlt : i < xs.length := (List.getElem?_eq_some_iff.mp hx').1
    have htk : xs.take (i + 1) = xs.take i ++ [x] := by rw [List.take_add_one, hx']; rfl
    have e1 : M.comp p f (xs.take (i + 1)) = (M.comp p f [x] >>= fun b => .ok (ys ++ b)) := by rw [htk, M.comp_app, hi]; rfl
    have nb3 : (M.comp p f [x]).nb := fun z => nb2 (by
      have : xs = xs.take (i + 1) ++ xs.drop (i + 1) := (List.take_append_drop _ _).symm
      rw [this, M.comp_app, e1, z]; rfl)
    intro e0 F σ0 H v s r Q q
    refine hb x e0 F σ0 H v s r Q fun σ' Γ' ⟨ht, hw⟩ s' => q σ' Γ' ?_ s'
    simp only [M.comp] at nb3 e1
    obtain ⟨b, hb1⟩ := M.calm_nb (M.nb1 nb3)
    rw [hb1] at nb3 e1
    simp only [M.calm_of_ok, M.ok_bind] at nb3 e1
    refine t_mono (t_calm (ht (by rw [hb1]; exact fun z => nomatch z) (by rw [hb1]; exact XkM.ok))) fun b' eb => ⟨fun z => ?_, fun z => ?_⟩
    · rw [hb1] at eb
      cases eb
      subst z
      rw [if_pos rfl] at nb3 e1
      obtain ⟨y, hy⟩ := M.calm_nb (M.nb1 nb3)
      rw [hy] at e1
      refine o_mono (o_calm (hw (by rw [hy]; exact fun z => nomatch z) (by rw [hy]; exact XkM.ok))) fun y' ey => ?_
      rw [hy] at ey
      cases ey
      exact ⟨by omega, e1, by simp; omega⟩
    · rw [hb1] at eb
      cases eb
      subst z
      rw [if_neg (by simp)] at e1
      exact ⟨by rw [e1]; simp, by omega⟩
  · rw [List.take_length] at hi
    rw [e]
    exact hi
/-! two slots at once -/
theorem State.two {α1 : Type} {d1 : Dat α1} {e : En} {F : Hp} {σ : _root_.L2.St} {H : Hp} {od1 : @OD α1 d1} {x1 : α1} {c2 : Cell} {j1 j2 : Nat} {p1 : Option V} (s : State Y e F σ H Γ) (hn : j1 ≠ j2) (h1 : Γ[j1]? = some (.own d1 od1 p1 x1)) (h2 : Γ[j2]? = some c2) :
    ∃ v1 o2 L1 L2 rest, σ[j1]? = some (some v1) ∧ σ[j2]? = some o2 ∧ (∀ u, p1 = some u → v1 = u) ∧ od1.orep Y.g F v1 x1 L1 ∧ CellOk Y.g F o2 c2 L2 ∧ Wk e F ((L1 ++ L2) ++ rest) H ∧
    ∀ F' H' o2' c1' c2' L1' L2', Same F F' → Wk e F' ((L1' ++ L2') ++ rest) H' → CellOk Y.g F' (some v1) c1' L1' → CellOk Y.g F' o2' c2' L2' → State Y e F' (σ.set j2 o2') H' ((Γ.set j1 c1').set j2 c2') := by
  obtain ⟨hx, L, k, sl⟩ := s
  obtain ⟨o, A1, Li1, A2, e1, e2, ⟨v1, rfl, hp1, r1⟩, f⟩ := sl.get h1
  subst e2
  have sl1 := f F (some v1) .no [] (Same.refl _) rfl
  rw [set_same e1] at sl1
  have h2' : (Γ.set j1 .no)[j2]? = some c2 := by rw [List.getElem?_set_ne hn]; exact h2
  obtain ⟨o2, B1, Li2, B2, e3, e4, r2, g⟩ := sl1.get h2'
  have e4' : A1 ++ A2 = B1 ++ Li2 ++ B2 := by simpa using e4
  have pm : (A1 ++ Li1 ++ A2).Perm ((Li1 ++ Li2) ++ (B1 ++ B2)) := by
    have q1 : (A1 ++ Li1 ++ A2).Perm (Li1 ++ (A1 ++ A2)) := by
      have := (List.perm_append_comm (l₁ := A1) (l₂ := Li1)).append_right A2
      simpa [List.append_assoc] using this
    have q2 : (B1 ++ Li2 ++ B2).Perm (Li2 ++ (B1 ++ B2)) := by
      have := (List.perm_append_comm (l₁ := B1) (l₂ := Li2)).append_right B2
      simpa [List.append_assoc] using this
    rw [e4'] at q1
    have q3 := q1.trans (q2.append_left Li1)
    simpa [List.append_assoc] using q3
  refine ⟨v1, o2, Li1, Li2, B1 ++ B2, e1, e3, hp1, r1, r2, k.perm2 pm, fun F' H' o2' c1' c2' L1' L2' s' k' r1' r2' => ?_⟩
  have sl2 := g F' o2' c2' L2' s' r2'
  have hlt : j1 < Γ.length := (List.getElem?_eq_some_iff.mp h1).1
  have h3 : ((Γ.set j1 .no).set j2 c2')[j1]? = some .no := by
    rw [List.getElem?_set_ne (Ne.symm hn), List.getElem?_set_self hlt]
  obtain ⟨o3, C1, Lz, C2, e5, e6, hz, q⟩ := sl2.get h3
  have hz : Lz = [] := hz
  subst hz
  have sl3 := q F' (some v1) c1' L1' (Same.refl _) r1'
  rw [set_same (by rw [List.getElem?_set_ne (Ne.symm hn)]; exact e1)] at sl3
  have eΓ : ((Γ.set j1 .no).set j2 c2').set j1 c1' = (Γ.set j1 c1').set j2 c2' := by
    rw [set_set_ne hn, List.set_set, set_set_ne (Ne.symm hn)]
  rw [eΓ] at sl3
  refine ⟨hx, C1 ++ L1' ++ C2, k'.perm2 ?_, sl3⟩
  have e6' : B1 ++ L2' ++ B2 = C1 ++ C2 := by simpa using e6
  have q2' : (L2' ++ (B1 ++ B2)).Perm (B1 ++ L2' ++ B2) := by
    have := (List.perm_append_comm (l₁ := B1) (l₂ := L2')).append_right B2
    simpa [List.append_assoc] using this.symm
  rw [e6'] at q2'
  have q3 : (L1' ++ (C1 ++ C2)).Perm (C1 ++ L1' ++ C2) := by
    have := (List.perm_append_comm (l₁ := C1) (l₂ := L1')).append_right C2
    simpa [List.append_assoc] using this.symm
  have := (q2'.append_left L1').trans q3
  simpa [List.append_assoc] using this
/-! an item handed in and still read: the list with its item v0, which stands for y -/
@[reducible] def dRaw (v0 : V) : Dat Unit := ⟨fun _ _ v _ => v = v0, fun _ h => h⟩
@[reducible] def dAl (v0 : V) (y : α) : Dat (List α) := ⟨fun C F v xs => (dList (d := d)).rep C F v xs ∧ d.rep C F v0 y, fun s h => ⟨(dList (d := d)).mono s h.1, d.mono s h.2⟩⟩
theorem Reps.zipV {C : GCtx} {F : Hp} {v : V} {y : α} : ∀ {vs : List V} {xs : List α}, Reps d C F vs xs → (v, y) ∈ vs.zip xs → d.rep C F v y
  | [], [], _, h => nomatch h
  | u :: us, x :: xs, r, h => by
    rw [List.zip_cons_cons] at h
    rcases List.mem_cons.mp h with e | h
    · cases e; exact r.1
    · exact Reps.zipV r.2 h
  | [], _ :: _, r, _ => r.elim
  | _ :: _, [], r, _ => r.elim
@[reducible] def oAl (v0 : V) (y : α) (od : @OD α d) : @OD (List α) (dAl (d := d) v0 y) := @OD.mk (List α) (dAl (d := d) v0 y)
  (fun C F v xs L => ∃ a vs L', v = .ref a ∧ L = (a, .lst vs) :: L' ∧ OReps od C F vs xs L' ∧ (v0, y) ∈ vs.zip xs)
  (fun m ⟨a, vs, L', e, h, r, z⟩ => ⟨a, vs, L', e, h, r.mono m, z⟩)
  (fun ⟨a, vs, L', e, h, r, z⟩ m k => by
    have r2 := r.view m fun p hp => k p (by rw [h]; exact List.mem_cons_of_mem _ hp)
    exact ⟨(oDeep od).view ⟨a, vs, L', e, h, r⟩ m k, Reps.zipV r2 z⟩)
end
end G
end

noncomputable section
/-! M56: defs that change one of their arguments and hand it back within their result: frozen for the caller from then on. -/
namespace G
open PySem PySem.Spec PyProof.Rows L2 PySem.W
@[reducible] def dPin {α : Type} (u : V) (d : Dat α) : Dat α := ⟨fun C F v x => v = u ∧ d.rep C F v x, fun s h => ⟨h.1, d.mono s h.2⟩⟩
section
variable {tx : XC → Addr} {Y : YC} {Γ : List Cell} {te : TE} {tl : TA} {α β τ σ : Type} {d : Dat α} {rest ts : TS} {js : List Nat} {K : Kt τ} {k : Ks}
end
end G
end

noncomputable section
/-! M57: pairs of owned things hold nothing that is frozen for a borrowing alone. -/
namespace G
open PySem PySem.Spec PyProof.Rows L2 PySem.W
instance mPair {α β : Type} {d1 : Dat α} {d2 : Dat β} {od1 : @OD α d1} {od2 : @OD β d2} [i1 : @OIm α d1 od1] [i2 : @OIm β d2 od2] : @OIm (α × β) (dPair (d1 := d1) (d2 := d2)) (oPair od1 od2) :=
  @OIm.mk (α × β) (dPair (d1 := d1) (d2 := d2)) (oPair od1 od2) fun t ⟨a, v1, v2, L1, L2, e, h, tp, r1, r2⟩ => ⟨a, v1, v2, L1, L2, e, h, tp.imp (t a _) id, i1.oimm t r1, i2.oimm t r2⟩
end G
end

noncomputable section
/-! M58: {key: value for ..} with keys tuples of ints (the walk follows the library's own for other keys, the store's step is the tuples' one). -/
namespace G
open PySem PySem.Spec PyProof.Rows L2 PySem.W
section
variable {X : Cx}
end
section
variable {tx : XC → Addr} {Y : YC} {Γ : List Cell} {te ta tb tl tk tv : TE} {t u tt : TT} {α β κ : Type} [DecidableEq κ] {dk : Dat κ} {ky : KeyD κ dk} {d : Dat α} {d2 : Dat β} {g : TG}
end
end G
end

noncomputable section
/-! M59: an owned dict keyed by tuples is locked for good (nothing writes it any more); walks over its keys. -/
namespace G
open PySem PySem.Spec PyProof.Rows L2 PySem.W
class KeyB (κ : Type) (dk : Dat κ) (ky : KeyD κ dk) where
  bk : ∀ {C : GCtx} {F : Hp} {q : Addr} {k : κ}, F q = some (.tup ((ky.key k).map kV)) → dk.rep C F (.ref q) k
instance kbPair : KeyB (Int × Int) (dPair (d1 := dInt) (d2 := dInt)) kyPair where
  bk := fun {C F q k} h => ⟨q, .int k.1, .int k.2, rfl, .inl h, rfl, rfl⟩
theorem TReps.getV {κ β : Type} {dk : Dat κ} {ky : KeyD κ dk} {d : Dat β} {C : GCtx} {F : Hp} {k : List L2.Key} {v : V} : ∀ {ps : List (List L2.Key × V)} {xs : List (κ × β)} {i : Nat}, TReps ky d C F ps xs → ps[i]? = some (k, v) → ∃ x, xs[i]? = some x ∧ k = ky.key x.1 ∧ d.rep C F v x.2
  | [], [], i, _, e => by simp at e
  | p :: ps, x :: xs, 0, h, e => ⟨x, rfl, by cases (Option.some.inj e); exact h.1, by cases (Option.some.inj e); exact h.2.1⟩
  | p :: ps, x :: xs, i + 1, h, e => TReps.getV (i := i) h.2.2 e
  | [], _ :: _, _, h, _ => h.elim
  | _ :: _, [], _, h, _ => h.elim
/-- a locked dict -/
@[reducible] def dKL {κ α : Type} {dk : Dat κ} {ky : KeyD κ dk} {d : Dat α} : Dat (DK κ α) := ⟨fun C F v x => ∃ a o ps, v = .ref a ∧ F a = some (.frz o (.dT ps)) ∧ TReps ky d C F ps x.kv, fun m ⟨a, o, ps, e, h, r⟩ => ⟨a, o, ps, e, m _ _ h, TReps.mono' m r⟩⟩
@[reducible] def oKL {κ α : Type} {dk : Dat κ} {ky : KeyD κ dk} {d : Dat α} : @OD (DK κ α) (dKL (ky := ky) (d := d)) := @OD.mk (DK κ α) (dKL (ky := ky) (d := d))
  (fun C F v x L => ∃ a o ps, v = .ref a ∧ L = [(a, .frz o (.dT ps))] ∧ TReps ky d C F ps x.kv)
  (fun m ⟨a, o, ps, e, h, r⟩ => ⟨a, o, ps, e, h, TReps.mono' m r⟩)
  (fun ⟨a, o, ps, e, h, r⟩ m k => ⟨a, o, ps, e, k (a, .frz o (.dT ps)) (by rw [h]; exact List.mem_cons_self), TReps.mono' m r⟩)
section
variable {tx : XC → Addr} {Y : YC} {Γ : List Cell} {te ta tb tl tk tv : TE} {t : TS} {κ α τ : Type} {dk : Dat κ} {ky : KeyD κ dk} {d : Dat α} {js : List Nat} {rest : TS} {K : Kt τ}
variable [kb : KeyB κ dk ky]
end
end G
end

noncomputable section
/-! M60: a return of three owned locals. -/
namespace G
open PySem PySem.Spec PyProof.Rows L2 PySem.W
section
variable {Y : YC} {Γ : List Cell} {k : Ks} {α β γ : Type} {d1 : Dat α} {d2 : Dat β} {d3 : Dat γ}
end
section
variable {tx : XC → Addr} {Y : YC} {Γ : List Cell} {α β γ : Type} {d1 : Dat α} {d2 : Dat β} {d3 : Dat γ} {rest : TS} {js : List Nat}
end
/-! if not f(.., xs, ..) -/
section
variable {tx : XC → Addr} {Y : YC} {Γ : List Cell} {tl : TA} {α τ : Type} {d : Dat α} {K : Kt τ} {rest t1 t2 : TS} {js : List Nat}
end
end G
end

noncomputable section
/-! M61: loops left by a return in defs that change an argument. -/
namespace G
open PySem PySem.Spec PyProof.Rows L2 PySem.W
section
variable {tx : XC → Addr} {Y : YC} {Γ : List Cell} {js : List Nat} {rest ts : TS} {g : TG} {te : TE} {α β τ σ ρ μ : Type} {d : Dat α} {K : Kt τ}
section
variable {js' : List Nat} {cells : σ → List Cell} {s : σ} {rt : ρ → Cell → List Cell → Prop}
end
end
end G
end

noncomputable section
/-! M62: sorted(set(xs)), xs a list of pairs of ints below 64. -/
namespace L2
open PySem PySem.Spec PyProof.Rows
section
variable {X : Cx}
end
end L2
namespace G
open PySem PySem.Spec PyProof.Rows L2 PySem.W
section
variable {tx : XC → Addr} {Y : YC} {Γ : List Cell} {ta : TE}
end
end G
end

noncomputable section
/-! M63: xs[:0:-1]. -/
namespace L2
open PySem PySem.Spec PyProof.Rows
section
variable {X : Cx}
end
end L2
namespace G
open PySem PySem.Spec PyProof.Rows L2 PySem.W
section
variable {tx : XC → Addr} {Y : YC} {Γ : List Cell} {te : TE} {α : Type} {d : Dat α}
end
end G
end

noncomputable section
/-! M64: a return of a new thing and an owned local. -/
namespace G
open PySem PySem.Spec PyProof.Rows L2 PySem.W
section
variable {Y : YC} {Γ : List Cell} {k : Ks} {te : TE} {α β : Type} {d1 : Dat α} {d2 : Dat β}
end
section
variable {tx : XC → Addr} {Y : YC} {Γ : List Cell} {te : TE} {α β : Type} {d1 : Dat α} {d2 : Dat β} {rest : TS} {js : List Nat}
end
end G
end

noncomputable section
/-! M65: max(xs, default=d); len(set(pairs)); d[k] op= v for dicts keyed by tuples; an own dict keyed by tuples read and walked within a comprehension. -/
namespace L2
open PySem PySem.Spec PyProof.Rows
section
variable {prog : Program} {w : World} {A : Around} {E : Value → Shared → Prop} {s : Shared} {l : Addr} {its : List Value} {ns : List Int} {Q : Value → Shared → Prop}
end
section
variable {X : Cx}
end
end L2
namespace G
open PySem PySem.Spec PyProof.Rows L2 PySem.W
/-! ### max with a default -/
section
variable {tx : XC → Addr} {Y : YC} {Γ : List Cell} {ta tb te : TE} {α β τ κ : Type} {d : Dat α} {d2 : Dat β}
/-! ### len(set(pairs)) -/
end
end G
end

noncomputable section
/-! M66: d[k] op= v for dicts keyed by tuples; an own dict keyed by tuples, read and walked within a comprehension (locked meanwhile). -/
namespace L2
open PySem PySem.Spec PyProof.Rows
end L2
namespace G
open PySem PySem.Spec PyProof.Rows L2 PySem.W
section
variable {tx : XC → Addr} {Y : YC} {Γ : List Cell} {ta tb tl te tk tv : TE} {α β τ κ : Type} [DecidableEq κ] {dk : Dat κ} {ky : KeyD κ dk} {d : Dat α} {d2 : Dat β} {js vs : List Nat} {rest : TS} {K : Kt τ}
/-! ### locked for one expression -/
/-! ### a comprehension over the keys -/
variable [kb : KeyB κ dk ky]
/-! len of an own dict keyed by tuples -/
end
end G
end

noncomputable section
/-! M67: a return of new, owned local, new; for over a list within owned plain data that are changed later. -/
namespace G
open PySem PySem.Spec PyProof.Rows L2 PySem.W
section
variable {Y : YC} {Γ : List Cell} {k : Ks} {te te3 : TE} {α β γ : Type} {d1 : Dat α} {d2 : Dat β} {d3 : Dat γ}
end
section
variable {tx : XC → Addr} {Y : YC} {Γ : List Cell} {te te3 : TE} {α β γ : Type} {d1 : Dat α} {d2 : Dat β} {d3 : Dat γ} {rest : TS} {js : List Nat}
end
mutual
theorem OUr.frz {C : GCtx} {F : Hp} : ∀ (x : PyData) (v : V) (L : LO), G.noL x = true → OUr C F x v L → DU C F x v
  | .none, _, _, _, h => h.1
  | .bool _, _, _, _, h => h.1
  | .int _, _, _, _, h => h.1
  | .str _, _, _, _, h => h.1
  | .list _, _, _, n, _ => by cases n
  | .tuple ds, v, L, n, ⟨a, vs, e, h, r⟩ => ⟨a, vs, e, h, OUrs.frz ds vs L n r⟩
  | .dict _, _, _, _, h => h.elim
theorem OUrs.frz {C : GCtx} {F : Hp} : ∀ (xs : List PyData) (vs : List V) (L : LO), noLs xs = true → OUrs C F xs vs L → DUs C F xs vs
  | [], [], _, _, _ => trivial
  | d :: ds, v :: vs, _, n, ⟨L1, L2, _, h1, h2⟩ => by
    have n2 : (G.noL d && noLs ds) = true := n
    rw [Bool.and_eq_true] at n2
    exact ⟨OUr.frz d v L1 n2.1 h1, OUrs.frz ds vs L2 n2.2 h2⟩
  | [], _ :: _, _, _, h => h.elim
  | _ :: _, [], _, _, h => h.elim
end
section
variable {tx : XC → Addr} {Y : YC} {Γ : List Cell} {α : Type} {d : Dat α} {g : TG} {ts : TS}
end
end G
end

noncomputable section
/-! M68: comprehensions over range(a, b). -/
namespace G
open PySem PySem.Spec PyProof.Rows L2 PySem.W
section
variable {Y : YC} {Γ : List Cell} {β : Type} {d2 : Dat β} {ta tb te : TE} {tt : TT} {g : TG}
end
section
variable {tx : XC → Addr} {Y : YC} {Γ : List Cell} {ta tb : TE}
end
end G

noncomputable section
/-! M69: sorted(d) of a locked dict keyed by tuples; d.get(k, x) of dicts keyed by tuples. -/
namespace L2
open PySem PySem.Spec PyProof.Rows PySem.W
section
variable {X : Cx}
end
end L2
namespace G
open PySem PySem.Spec PyProof.Rows L2 PySem.W
instance kbTup : KeyB (Tup Int) (dTup (d := dInt)) kyTup where
  bk := fun {C F q k} h => ⟨q, k.l.map V.int, rfl, .inl (by
    have : ((KeyD.key (dTup (d := dInt)) k : List L2.Key)).map kV = k.l.map V.int := by
      show (k.l.map Sum.inl).map kV = _
      rw [List.map_map]
      rfl
    rw [this] at h
    exact h), by
      have : ∀ l : List Int, Reps dInt C F (l.map V.int) l := fun l => by
        induction l with
        | nil => trivial
        | cons x l ih => exact ⟨rfl, ih⟩
      exact this k.l⟩
instance ltTup {α : Type} [DecidableEq α] [OLt α] : OLt (Tup α) := ⟨fun x y => ltL x.l y.l⟩
instance doTup {α : Type} {d : Dat α} [de : @DE α d] [o : @DO α d de] : @DO (Tup α) dTup deTup := @DO.mk _ _ deTup fun x y => by
  show alike (.tuple (x.l.map de.toD)) (.tuple (y.l.map de.toD)) = true
  rw [alike]
  exact alk_all x.l y.l
instance dltTup {α : Type} [DecidableEq α] [OLt α] {d : Dat α} [de : @DE α d] [o : @DO α d de] [l : @DLt α d de _] : @DLt (Tup α) dTup deTup _ := @DLt.mk _ _ deTup _ fun x y => by
  show dataLt (.tuple (x.l.map de.toD)) (.tuple (y.l.map de.toD)) = ltL x.l y.l
  rw [dataLt_tuple]
  exact dlt_all x.l y.l
/-- keys that are not empty -/
class KNe (κ : Type) {dk : Dat κ} [de : @DE κ dk] where
  ne : κ → Bool
  is : ∀ k, ne k = true → ∃ y r, de.toD k = .tuple (y :: r)
instance kneTup : @KNe (Tup Int) (dTup (d := dInt)) deTup := @KNe.mk _ _ deTup (fun t => !t.l.isEmpty) fun k h => by
  obtain ⟨l⟩ := k
  cases l with
  | nil => cases h
  | cons x l => exact ⟨_, _, rfl⟩
instance knePair : @KNe (Int × Int) (dPair (d1 := dInt) (d2 := dInt)) dePair := @KNe.mk _ _ dePair (fun _ => true) fun k _ => ⟨_, _, rfl⟩
section
variable {tx : XC → Addr} {Y : YC} {Γ : List Cell} {te ta tb tc : TE} {κ α : Type} [DecidableEq κ] {dk : Dat κ} {ky : KeyD κ dk} {d : Dat α}
/-! d.get(k, x) -/
end
end G
end

noncomputable section
/-! M70: a < b < c < d of whole numbers, as a test. -/
namespace L2
open PySem PySem.Spec PyProof.Rows
section
variable {X : Cx} {a b c d : Expr} {ta tb tc td : TE} {pos : Pos}
end
end L2
namespace G
open PySem PySem.Spec PyProof.Rows L2 PySem.W
section
variable {tx : XC → Addr} {Y : YC} {Γ : List Cell} {ta tb tc td : TE}
end
section
variable {tx : XC → Addr} {Y : YC} {Γ : List Cell} {ta tb tc : TE} {κ α : Type} [DecidableEq κ] {dk : Dat κ} {ky : KeyD κ dk} {d : Dat α}
end
end G
end

noncomputable section
/-! M71: calls with keyword-only arguments f(a, x = .., y = ..) of defs that may raise. -/
namespace L2
open PySem PySem.Spec PyProof.Rows
def tCallNS (n m : Nat) (sp : Sp) (gV : List V → List V → List V) (E : St → XK) (t tk : TA) : TE := fun σ H Q => t σ H fun vs H1 => tk σ H1 fun zs H2 => vs.length = n ∧ zs.length = m ∧ sp (gV vs zs) H2 Q (E σ)
section
variable {X : Cx} {CX : CXT} {k n : Nat} {f : Addr} {fd : FuncData} {ps ks : List Str} {sp : Sp} {E : St → XK} {x : Str} {p pos : Pos} {e : Expr} {es : List Expr} {kws : List Keyword} {t tk : TA} {ta tb tc : TE} {g : List Value → List Value → List Value} {gV : List V → List V → List V}
theorem kw1 : tCallNS 1 1 sp (fun vs zs => vs ++ zs ++ [.non]) E (tCons ta tNil) (tCons tb tNil) = tCallS sp E (tCons ta (tCons tb (tCons (tC .non) tNil))) := by
  funext σ H Q
  simp [tCallNS, tCallS, tCons, tNil, tC]
end
section
variable {K : PySem.W.Frag} {x qual : Str} {st : Stmt} {f : Addr} {fd : FuncData} {ps : List Str}
theorem Fun.kb (F : Fun K x qual st f fd) {D : Addr} (hD : fd.kwdefaults = .ref D) (n : Nat) (ks : List Str) (ms : List (Str × V)) (g : {α : Type} → List α → List α → List α → List α) (hq : ∀ q ∈ ms, ∃ u, PySem.W.nsIn K D q.1 = some (some u) ∧ RelV q.2 u)
    (hrel : ∀ {vs mz zs : List V} {us mv ws : List Value}, Vals vs us → Vals mz mv → Vals zs ws → Vals (g vs mz zs) (g us mv ws))
    (h : ∀ (doc pm : Value) (an : Option Addr) (cdv ct : Value) (us mv ws : List Value), us.length = n → mv.length = ms.length → ws.length = ks.length →
      KwChain D ((ms.map (·.1)).zip mv) (bindArgs (PySem.W.fnOf x qual (defArgs st) (defBody st) (defScope st) .none (.ref D) doc pm an cdv ct) ⟨us, ks.zip ws⟩) (ps.zip (g us mv ws))) :
    ∃ g', KBn K fd ps n ks g' (fun vs zs => g vs (ms.map (·.2)) zs) := by
  obtain ⟨oc, od, kV, doc, pm, an, cdv, ct, osl, rfl, lk, hcd⟩ := F.ex
  have e : kV = .ref D := hD
  subst e
  obtain ⟨mv, hl, rk, hks⟩ := kwd_vals hq
  refine ⟨fun us ws => g us mv ws, ⟨fun s us ws X l1 l2 => ?_, fun r1 r2 => hrel r1 rk r2⟩⟩
  exact BindsTo.of_looks fun M => KwChain.looks X hks (h doc pm an cdv ct us mv ws l1 hl l2)
end
end L2
end

noncomputable section
/-! M72: a triple whose third part may be None, from one where it is not. -/
namespace G
open PySem PySem.Spec PyProof.Rows L2 PySem.W
section
variable {tx : XC → Addr} {Y : YC} {Γ : List Cell} {te : TE} {α β γ : Type} {d1 : Dat α} {d2 : Dat β} {d3 : Dat γ}
end
end G

noncomputable section
/-! M73: xs[i][j] = e and xs[i][j] += e of lists that own lists; f'{i:spec}', str(i), s * n, s.join(xs), len(s). -/
namespace L2
open PySem PySem.Spec PyProof.Rows
section
variable {X : Cx}
/-- {i:spec}, an int -/
def tFmtI (sp : Str) (te : TE) : TE := fun σ H Q => te σ H fun x H1 => ∃ i : Int, x = .int i ∧ i.natAbs < 10 ^ 10 ∧ Q (.str (intSpecTextOf sp i)) H1
theorem pe_fmtI {e se : Expr} {te : TE} {sp : Str} {pos : Pos} (hst : PySem.W.nsIn X.K cStatics "sys.int_max_str_digits" = some none) (he : PE X e te) (hs : PE X se (tC (.str sp))) (hok : intSpecOk sp = true) (hl : sp.length ≤ sizeLine) : PE X (.FormattedValue e (-1) (some se) pos) (tFmtI sp te) := by
  refine ⟨fun pins s σ H Q I h => ?_⟩
  refine wpAny_FormattedValue_spec (thn (he.run pins s σ H _ I h) fun v s1 ⟨x, H1, I1, r1, i, ex, hi, q⟩ => ?_)
  subst ex
  obtain ⟨t, rfl⟩ := r1
  refine thn (hs.run pins s1 σ H1 (fun y H2 => y = V.str sp ∧ H2 = H1) I1 ⟨rfl, rfl⟩) fun r s2 ⟨y, H2, I2, r2, ey, eH⟩ => ?_
  subst ey eH
  obtain ⟨t2, rfl⟩ := r2
  obtain ⟨mc, hns, _⟩ := I2.nolimit
  exact ⟨sp, t2, rfl, formatField_int_specOf ⟨mc, hns, PySem.W.ns_none_of I2.kIn hns hst⟩ (lt_digitLimit_of_lt (by omega)) hok (fun W _ _ => ⟨.str _, _, I2.tok _, ⟨_, rfl⟩, q⟩) hl⟩
/-- s * n -/
def strRep (a : Str) (n : Int) : Str := if n < 1 then Str.empty else if (n == 1 || a.length == 0) = true then a else ⟨(List.replicate n.toNat a.cps).foldl (· ++ ·) #[]⟩
def rRepS : R2 := fun x y H Q => ∃ a n, x = V.str a ∧ y = V.int n ∧ -100000 ≤ n ∧ n ≤ 100000 ∧ a.length ≤ 100 ∧ Q (.str (strRep a n)) H
theorem op_repS : OpR X (binaryOp .Mult) rRepS := by
  intro pins s σ H x y v u Q I rx ry h
  obtain ⟨a, n, rfl, rfl, h0, h1, h2, q⟩ := h
  obtain ⟨t, rfl⟩ := rx
  obtain ⟨t', rfl⟩ := ry
  have p63 : (2 : Int) ^ 63 = 9223372036854775808 := by decide
  have ht : Builtin.Str.tooLong (a.length * n.toNat) = false := by
    have : a.length * n.toNat ≤ 100 * 100000 := Nat.mul_le_mul h2 (by omega)
    unfold Builtin.Str.tooLong
    have e := sizeLine_eq
    exact decide_eq_false (by omega)
  refine P.mul_str (by rw [Bool.or_eq_false_iff, p63]; exact ⟨decide_eq_false (by omega), decide_eq_false (by omega)⟩) (fun g1 _ => ?_) (fun _ _ => ht) ?_
  · rw [p63]
    have : (100 : Int) ≤ (9223372036854775808 - 1) / n := by
      refine (Int.le_ediv_iff_mul_le (by omega)).mpr ?_
      omega
    omega
  · unfold strRep at q
    by_cases c1 : n < 1
    · rw [if_pos c1] at q ⊢
      exact ⟨by decide, ⟨.str _, H, I.tok _, ⟨_, rfl⟩, q⟩⟩
    · rw [if_neg c1] at q ⊢
      by_cases c2 : (n == 1 || a.length == 0) = true
      · rw [if_pos c2] at q ⊢
        exact ⟨.str _, H, I, ⟨_, rfl⟩, q⟩
      · rw [if_neg c2] at q ⊢
        exact ⟨fits_reps ht, ⟨.str _, H, I.tok _, ⟨_, rfl⟩, q⟩⟩
/-- s.join(xs) -/
def rJoinK (K : PySem.W.Frag) : V → List V → Hp → VK → Prop := fun x xs H Q => ∃ a p, ∃ ys : List Str, x = .str a ∧ xs = [.ref p] ∧ (SqL K H p (ys.map V.str) ∨ SqT K H p (ys.map V.str)) ∧ (ys.map (·.length)).sum + ys.length * a.length ≤ 16777216 ∧ Q (.str (Txt.join a ys)) H
theorem join_K (K : PySem.W.Frag) {o e : Expr} {to te : TE} {apos pos : Pos} (ho : PE X o to) (he : PE X e te) (hK : X.K = K := by rfl) (hs : starEach [e] X.env = [(false, eval e X.env)] := by rfl) (hbase : attributeBase o "join" X.env (eval o X.env) = eval o X.env := by rfl) (hline : (apos.endLine == pos.line) = true := by rfl) :
    PE X (.Call (.Attribute o "join" apos) [e] [] pos) (tM1 (rJoinK K) to te) := hK ▸ pe_join ho he hs hbase hline
/-- in place, a list's item -/
theorem pg_list : PGet X (rIxL X.K) := by
  intro pins s σ H x y v u Q I rx ry h
  obtain ⟨p, xs, i, z, rfl, rfl, hq, he, q⟩ := h
  cases rx
  obtain ⟨t, rfl⟩ := ry
  obtain ⟨its, r, pl, hz⟩ := I.list hq
  obtain ⟨j, h1, h2, h3, h4, h5⟩ := atI_get he
  obtain ⟨w, ew, rw'⟩ := r.get h2
  have hl := r.length
  have hn := line63
  have fin : EP X pins σ Q w s := ⟨z, H, I, rw', q⟩
  by_cases h0 : 0 ≤ i
  · have hj : i.toNat = j := by
      rw [seqIndex_of h0 h5] at h1
      exact Option.some.inj h1
    exact wpAny_getItem_list pl.isList h0 (by omega) (by rw [hj]; simpa using ew) fin
  · have hj : (i + (its.toArray.size : Int)).toNat = j := by
      rw [seqIndex_neg (by omega) h4] at h1
      rw [List.size_toArray, ← hl]
      exact Option.some.inj h1
    exact wpAny_getItem_list_neg pl.isList (by omega) (by rw [List.size_toArray] <;> omega) (by omega) (by rw [hj]; simpa using ew) fin
theorem pg_lK (K : PySem.W.Frag) (h : X.K = K := by rfl) : PGet X (rIxL K) := h ▸ pg_list
end
end L2
namespace G
open PySem PySem.Spec PyProof.Rows L2 PySem.W
section
variable {Y : YC} {Γ : List Cell} {k : Ks} {ta tb te : TE} {α : Type} {d : Dat α}
/-- xs[i][j] = y, the items owned -/
theorem z_setIxx {pin : Option V} {i : Nat} {xs : List (List α)} (hi : Γ[i]? = some (.own (dList (d := dList (d := d))) (oDeep (oList (d := d))) pin xs))
    (h : W Y te Γ d fun y => R Y ta Γ dInt fun n => ∃ j x, ixN xs.length n = some j ∧ xs[j]? = some x ∧ R Y tb Γ dInt fun m => ∃ l, ixN x.length m = some l ∧ k.nx (Γ.set i (.own (dList (d := dList (d := d))) (oDeep (oList (d := d))) pin (xs.set j (x.set l y))))) :
    Z Y (tAsg te (gSub (tOp (rIxL Y.K) (tVar i) ta) tb rSetL)) Γ k := fun e F σ H D hM s c => h e F σ H s _ fun u F0 H0 y hy g0 ru => by
  have s0 := s.grow g0
  obtain ⟨v0, e1, r0⟩ := s0.own hi
  refine ⟨v0, e1, hy e F0 σ H0 s0 _ fun v1 F1 H1 n ⟨j, x, hj, hx, hw⟩ g1 r1 => ?_⟩
  cases (show v1 = .int n from r1)
  have st1 := s0.grow g1
  obtain ⟨v, Li, rest, e2, ⟨a, vs, L', rfl, rfl, r⟩, kw, f⟩ := st1.mut hi
  rw [e1] at e2
  cases (Option.some.inj e2)
  have ha : H1 a = some (.lst vs) := (kw.ow (a, .lst vs) (by simp)).2.1
  obtain ⟨w, M1, Mi, M2, e3, e4, ⟨b, us, rfl, rfl, r3⟩, f2⟩ := r.at hx
  have hb : H1 b = some (.lst us) := (kw.ow (b, .lst us) (by rw [e4]; simp)).2.1
  refine ⟨a, vs, n, .ref b, rfl, rfl, .inl (.inl ha), by unfold atI; rw [r.len, hj]; exact e3, hw e F1 σ H1 st1 _ fun v2 F2 H2 m ⟨l, hl, ky⟩ g2 r2 => ?_⟩
  cases (show v2 = .int m from r2)
  have hb2 : H2 b = some (.lst us) := g2.hh0 _ _ hb
  refine ⟨b, us, m, l, rfl, rfl, hb2, by rw [r3.len]; exact hl, ?_⟩
  obtain ⟨v', Li', rest', e9, ⟨a', vs', L2, h30, h31, r30⟩, k9, f9⟩ := (st1.grow g2).mut hi
  rw [e1] at e9
  cases (Option.some.inj e9)
  cases h30
  subst h31
  have ha0 : H2 a = some (.lst vs') := (k9.ow (a, .lst vs') (by simp)).2.1
  rw [g2.hh0 _ _ ha] at ha0
  cases (Option.some.inj ha0)
  obtain ⟨w4, Q1, Qi, Q2, e10, e11, ⟨b4, us4, h40, h41, ru4⟩, f5⟩ := r30.at hx
  rw [e3] at e10
  cases (Option.some.inj e10)
  cases h40
  subst h41 e11
  have hb4 : H2 b = some (.lst us4) := (k9.ow (b, .lst us4) (by simp)).2.1
  rw [hb2] at hb4
  cases (Option.some.inj hb4)
  have q5 := f5 (x.set l y) [(b, .lst (us.set l u))] ⟨b, _, rfl, rfl, ru4.set l (d.mono (g1.trans0 g2).ff ru)⟩
  have k1 : Wk e F2 (((a, .lst vs) :: Q1) ++ [(b, .lst us)] ++ (Q2 ++ rest')) H2 := by simpa [List.append_assoc] using k9
  have k2 := k1.front.put (o' := .lst (us.set l u)) (fun _ z => by cases z)
  have k3 : Wk e F2 (((a, .lst vs) :: Q1) ++ [(b, .lst (us.set l u))] ++ (Q2 ++ rest')) (upd H2 b (.lst (us.set l u))) := Wk.back (Li := [(b, .lst (us.set l u))]) k2
  exact c.nx F2 σ _ _ ky (f9 F2 _ ((a, .lst vs) :: (Q1 ++ [(b, .lst (us.set l u))] ++ Q2)) _ (Same.refl _) (by simpa [List.append_assoc] using k3) ⟨a, vs, _, rfl, rfl, q5⟩)
/-- xs[i][j] op= y, ints -/
theorem z_augIxx {pin : Option V} {i : Nat} {f : Int → Int → Int} {xs : List (List Int)} (hi : Γ[i]? = some (.own (dList (d := dList (d := dInt))) (oDeep (oList (d := dInt))) pin xs))
    (h : R Y ta Γ dInt fun n => ∃ j x, ixN xs.length n = some j ∧ xs[j]? = some x ∧ R Y tb Γ dInt fun m => ∃ l z, ixN x.length m = some l ∧ x[l]? = some z ∧ R Y te Γ dInt fun y => k.nx (Γ.set i (.own (dList (d := dList (d := dInt))) (oDeep (oList (d := dInt))) pin (xs.set j (x.set l (f z y)))))) :
    Z Y (tAugS (tOp (rIxL Y.K) (tVar i) ta) tb te (rIxL Y.K) (ipI f) rSetL) Γ k := fun e F0 σ H0 D hM s0 c => by
  obtain ⟨v0, e1, r0⟩ := s0.own hi
  refine ⟨v0, e1, h e F0 σ H0 s0 _ fun v1 F1 H1 n ⟨j, x, hj, hx, hw⟩ g1 r1 => ?_⟩
  cases (show v1 = .int n from r1)
  have st1 := s0.grow g1
  obtain ⟨v, Li, rest, e2, ⟨a, vs, L', rfl, rfl, r⟩, kw, f_⟩ := st1.mut hi
  rw [e1] at e2
  cases (Option.some.inj e2)
  have ha : H1 a = some (.lst vs) := (kw.ow (a, .lst vs) (by simp)).2.1
  obtain ⟨w, M1, Mi, M2, e3, e4, ⟨b, us, rfl, rfl, r3⟩, f2⟩ := r.at hx
  have hb : H1 b = some (.lst us) := (kw.ow (b, .lst us) (by rw [e4]; simp)).2.1
  refine ⟨a, vs, n, .ref b, rfl, rfl, .inl (.inl ha), by unfold atI; rw [r.len, hj]; exact e3, hw e F1 σ H1 st1 _ fun v2 F2 H2 m ⟨l, z, hl, hz, ht⟩ g2 r2 => ?_⟩
  cases (show v2 = .int m from r2)
  have hb2 : H2 b = some (.lst us) := g2.hh0 _ _ hb
  have eus := Reps.ints r3
  have hzv : us[l]? = some (V.int z) := by rw [eus, List.getElem?_map, hz]; rfl
  refine ⟨b, us, m, .int z, rfl, rfl, .inl (.inl hb2), by unfold atI; rw [r3.len, hl]; exact hzv, ht e F2 σ H2 (st1.grow g2) _ fun v4 F4 H4 y ky g4 r4 => ?_⟩
  cases (show v4 = .int y from r4)
  have g5 := g2.trans0 g4
  have hb5 : H4 b = some (.lst us) := g5.hh0 _ _ hb
  refine ⟨z, y, rfl, rfl, b, us, m, l, rfl, rfl, hb5, by rw [r3.len]; exact hl, ?_⟩
  obtain ⟨v', Li', rest', e9, ⟨a', vs', L2, h30, h31, r30⟩, k9, f9⟩ := (st1.grow g5).mut hi
  rw [e1] at e9
  cases (Option.some.inj e9)
  cases h30
  subst h31
  have ha0 : H4 a = some (.lst vs') := (k9.ow (a, .lst vs') (by simp)).2.1
  rw [g5.hh0 _ _ ha] at ha0
  cases (Option.some.inj ha0)
  obtain ⟨w4, Q1, Qi, Q2, e10, e11, ⟨b4, us4, h40, h41, ru4⟩, f5⟩ := r30.at hx
  rw [e3] at e10
  cases (Option.some.inj e10)
  cases h40
  subst h41 e11
  have hb4 : H4 b = some (.lst us4) := (k9.ow (b, .lst us4) (by simp)).2.1
  rw [hb5] at hb4
  cases (Option.some.inj hb4)
  have q5 := f5 (x.set l (f z y)) [(b, .lst (us.set l (.int (f z y))))] ⟨b, _, rfl, rfl, ru4.set l (show dInt.rep Y.g F4 (V.int (f z y)) (f z y) from rfl)⟩
  have k1 : Wk e F4 (((a, .lst vs) :: Q1) ++ [(b, .lst us)] ++ (Q2 ++ rest')) H4 := by simpa [List.append_assoc] using k9
  have k2 := k1.front.put (o' := .lst (us.set l (.int (f z y)))) (fun _ z => by cases z)
  have k3 : Wk e F4 (((a, .lst vs) :: Q1) ++ [(b, .lst (us.set l (.int (f z y))))] ++ (Q2 ++ rest')) (upd H4 b (.lst (us.set l (.int (f z y))))) := Wk.back (Li := [(b, .lst (us.set l (.int (f z y))))]) k2
  exact c.nx F4 σ _ _ ky (f9 F4 _ ((a, .lst vs) :: (Q1 ++ [(b, .lst (us.set l (.int (f z y))))] ++ Q2)) _ (Same.refl _) (by simpa [List.append_assoc] using k3) ⟨a, vs, _, rfl, rfl, q5⟩)
end
section
variable {tx : XC → Addr} {Y : YC} {Γ : List Cell} {ta tb te : TE} {α τ : Type} {d : Dat α} {rest : TS} {js : List Nat} {K : Kt τ}
def M.setIxx {α : Type} (xs : List (List α)) (mi mj : M Int) (me : M α) : M (List (List α)) := me >>= fun y => mi >>= fun n => M.ofO (ixN xs.length n) >>= fun j => M.ofO xs[j]? >>= fun x => mj >>= fun m => M.ofO (ixN x.length m) >>= fun l => .ok (xs.set j (x.set l y))
theorem zm_setIxx {pin : Option V} {i : Nat} {xs : List (List α)} {mi mj : M Int} {me : M α} {m2 : List (List α) → M τ} (hi : Γ[i]? = some (.own (dList (d := dList (d := d))) (oDeep (oList (d := d))) pin xs)) (hj : i ∈ js) (hv : We tx Y te Γ d me) (hx : Re tx Y ta Γ dInt mi) (hy : Re tx Y tb Γ dInt mj)
    (h2 : ∀ y, Zm tx Y js rest (Γ.set i (.own (dList (d := dList (d := d))) (oDeep (oList (d := d))) pin y)) K (m2 y)) : Zm tx Y js (tSeq (tAsg te (gSub (tOp (rIxL Y.K) (tVar i) ta) tb rSetL)) rest) Γ K (M.setIxx xs mi mj me >>= m2) := fun nb xk =>
  z_seq (z_setIxx hi (hv.k (M.nb1 nb) xk.l.here fun y e nb3 xk3 => hx.k nb3 xk3 fun n e2 nb4 xk4 => by
    cases hq : ixN xs.length n with
    | none => rw [hq] at nb4; exact absurd rfl nb4
    | some j =>
      rw [hq] at nb4 xk4
      have nb4' : (M.ofO xs[j]? >>= fun x => mj >>= fun m => M.ofO (ixN x.length m) >>= fun l => M.ok (xs.set j (x.set l y))).nb := nb4
      have xk4' : XkM tx Y Γ (M.ofO xs[j]? >>= fun x => mj >>= fun m => M.ofO (ixN x.length m) >>= fun l => M.ok (xs.set j (x.set l y))) := xk4
      cases hz : xs[j]? with
      | none => rw [hz] at nb4'; exact absurd rfl nb4'
      | some x =>
        rw [hz] at nb4' xk4'
        exact ⟨j, x, rfl, hz, hy.k nb4' xk4' fun m e3 nb5 _ => by
          cases hl : ixN x.length m with
          | none => rw [hl] at nb5; exact absurd rfl nb5
          | some l => exact ⟨l, rfl, (h2 _).go nb xk (by unfold M.setIxx; rw [e]; show (mi >>= _) = _; rw [e2]; show (M.ofO (ixN xs.length n) >>= _) = _; rw [hq]; show (M.ofO xs[j]? >>= _) = _; rw [hz]; show (mj >>= _) = _; rw [e3]; show (M.ofO (ixN x.length m) >>= _) = _; rw [hl]; rfl) (wipeC_set hj)⟩⟩))
def M.augIxx (f : Int → Int → Int) (xs : List (List Int)) (mi mj me : M Int) : M (List (List Int)) := mi >>= fun n => M.ofO (ixN xs.length n) >>= fun j => M.ofO xs[j]? >>= fun x => mj >>= fun m => M.ofO (ixN x.length m) >>= fun l => M.ofO x[l]? >>= fun z => me >>= fun y => .ok (xs.set j (x.set l (f z y)))
theorem zm_augIxx {pin : Option V} {i : Nat} {f : Int → Int → Int} {xs : List (List Int)} {mi mj me : M Int} {m2 : List (List Int) → M τ} (hi : Γ[i]? = some (.own (dList (d := dList (d := dInt))) (oDeep (oList (d := dInt))) pin xs)) (hj : i ∈ js) (hx : Re tx Y ta Γ dInt mi) (hy : Re tx Y tb Γ dInt mj) (hv : Re tx Y te Γ dInt me)
    (h2 : ∀ y, Zm tx Y js rest (Γ.set i (.own (dList (d := dList (d := dInt))) (oDeep (oList (d := dInt))) pin y)) K (m2 y)) : Zm tx Y js (tSeq (tAugS (tOp (rIxL Y.K) (tVar i) ta) tb te (rIxL Y.K) (ipI f) rSetL) rest) Γ K (M.augIxx f xs mi mj me >>= m2) := fun nb xk =>
  z_seq (z_augIxx hi (hx.k (M.nb1 nb) xk.l.here fun n e2 nb4 xk4 => by
    cases hq : ixN xs.length n with
    | none => rw [hq] at nb4; exact absurd rfl nb4
    | some j =>
      rw [hq] at nb4 xk4
      have nb4' : (M.ofO xs[j]? >>= fun x => mj >>= fun m => M.ofO (ixN x.length m) >>= fun l => M.ofO x[l]? >>= fun z => me >>= fun y => M.ok (xs.set j (x.set l (f z y)))).nb := nb4
      have xk4' : XkM tx Y Γ (M.ofO xs[j]? >>= fun x => mj >>= fun m => M.ofO (ixN x.length m) >>= fun l => M.ofO x[l]? >>= fun z => me >>= fun y => M.ok (xs.set j (x.set l (f z y)))) := xk4
      cases hz : xs[j]? with
      | none => rw [hz] at nb4'; exact absurd rfl nb4'
      | some x =>
        rw [hz] at nb4' xk4'
        exact ⟨j, x, rfl, hz, hy.k nb4' xk4' fun m e3 nb5 xk5 => by
          cases hl : ixN x.length m with
          | none => rw [hl] at nb5; exact absurd rfl nb5
          | some l =>
            rw [hl] at nb5 xk5
            have nb5' : (M.ofO x[l]? >>= fun z => me >>= fun y => M.ok (xs.set j (x.set l (f z y)))).nb := nb5
            have xk5' : XkM tx Y Γ (M.ofO x[l]? >>= fun z => me >>= fun y => M.ok (xs.set j (x.set l (f z y)))) := xk5
            cases hzz : x[l]? with
            | none => rw [hzz] at nb5'; exact absurd rfl nb5'
            | some z =>
              rw [hzz] at nb5' xk5'
              exact ⟨l, z, rfl, hzz, hv.k nb5' xk5' fun y e5 nb6 _ => (h2 _).go nb xk (by unfold M.augIxx; rw [e2]; show (M.ofO (ixN xs.length n) >>= _) = _; rw [hq]; show (M.ofO xs[j]? >>= _) = _; rw [hz]; show (mj >>= _) = _; rw [e3]; show (M.ofO (ixN x.length m) >>= _) = _; rw [hl]; show (M.ofO x[l]? >>= _) = _; rw [hzz]; show (me >>= _) = _; rw [e5]; rfl) (wipeC_set hj)⟩⟩))
/-! texts -/
def M.fmtI (sp : Str) (i : Int) : M Str := M.asrt (i.natAbs < 10 ^ 10) (.ok (intSpecTextOf sp i))
theorem we_fmtI {sp : Str} {m : M Int} (h : Re tx Y ta Γ dInt m) : We tx Y (tFmtI sp ta) Γ dStr (m >>= M.fmtI sp) := fun nb xk e F σ H s Q q => h.k nb xk (k := fun i => m = .ok i ∧ (M.fmtI sp i).nb) (fun i e nb2 _ => ⟨e, nb2⟩) e F σ H s _ fun v F' H' i ⟨hm, nb2⟩ g r => by
  cases (show v = .int i from r)
  have hz := M.asrt_nb nb2
  exact ⟨i, rfl, hz, q _ F' H' _ (by rw [hm]; exact M.asrt_pos hz) g rfl⟩
def M.strI (i : Int) : M Str := M.asrt (i.natAbs.log2 < 1920) (.ok (toString i))
theorem we_strI {m : M Int} (h : Re tx Y ta Γ dInt m) : We tx Y (tCB (fun xs H Q => ∃ i, xs = [.int i] ∧ i.natAbs.log2 < 1920 ∧ Q (.str (toString i)) H) (tCons ta tNil)) Γ dStr (m >>= M.strI) := fun nb xk e F σ H s Q q => h.k nb xk (k := fun i => m = .ok i ∧ (M.strI i).nb) (fun i e nb2 _ => ⟨e, nb2⟩) e F σ H s _ fun v F' H' i ⟨hm, nb2⟩ g r => by
  cases (show v = .int i from r)
  have hz := M.asrt_nb nb2
  exact ⟨i, rfl, hz, q _ F' H' _ (by rw [hm]; exact M.asrt_pos hz) g rfl⟩
def M.lenS (x : Str) : M Int := M.asrt (x.length ≤ PySem.sizeLine) (.ok (x.length : Int))
theorem we_lenStr {m : M Str} (h : Re tx Y ta Γ dStr m) : We tx Y (tCB (fun xs H Q => ∃ z, xs = [.str z] ∧ z.length ≤ sizeLine ∧ Q (.int z.length) H) (tCons ta tNil)) Γ dInt (m >>= M.lenS) := fun nb xk e F σ H s Q q => h.k nb xk (k := fun i => m = .ok i ∧ (M.lenS i).nb) (fun i e nb2 _ => ⟨e, nb2⟩) e F σ H s _ fun v F' H' i ⟨hm, nb2⟩ g r => by
  cases (show v = .str i from r)
  have hz := M.asrt_nb nb2
  exact ⟨i, rfl, hz, q _ F' H' _ (by rw [hm]; exact M.asrt_pos hz) g rfl⟩
def M.repS (a : Str) (n : Int) : M Str := M.asrt ((-100000 ≤ n ∧ n ≤ 100000) ∧ a.length ≤ 100) (.ok (strRep a n))
theorem we_repS {m1 : M Str} {m2 : M Int} (h : We tx Y ta Γ dStr m1) (h2 : We tx Y tb Γ dInt m2) : We tx Y (tOp rRepS ta tb) Γ dStr (m1 >>= fun x => m2 >>= fun n => M.repS x n) := fun nb xk e F σ H s Q q =>
  h.k nb xk (k := fun x => W Y tb Γ dInt fun n => ((m1 >>= fun x => m2 >>= fun n => M.repS x n) = .ok (strRep x n)) ∧ (-100000 ≤ n ∧ n ≤ 100000) ∧ x.length ≤ 100) (fun x ex nb2 xk2 => h2.k nb2 xk2 fun n en nb3 xk3 => ⟨by rw [ex]; simp only [M.ok_bind]; rw [en]; exact M.asrt_pos (M.asrt_nb nb3), (M.asrt_nb nb3).1, (M.asrt_nb nb3).2⟩) e F σ H s _ fun v1 F1 H1 x hx g1 r1 => hx e F1 σ H1 (s.grow g1) _ fun v2 F2 H2 n ⟨hm, hn, hl⟩ g2 r2 => by
    cases (show v1 = .str x from r1)
    cases (show v2 = .int n from r2)
    exact ⟨x, n, rfl, rfl, hn.1, hn.2, hl, q _ F2 H2 _ hm (g1.trans g2) rfl⟩
theorem Reps.strs {C : GCtx} {F : Hp} : ∀ {vs : List V} {xs : List Str}, Reps dStr C F vs xs → vs = xs.map V.str
  | [], [], _ => rfl
  | v :: vs, x :: xs, h => by
    cases (show v = V.str x from h.1)
    rw [Reps.strs h.2]
    rfl
  | [], _ :: _, h => h.elim
  | _ :: _, [], h => h.elim
def M.join (a : Str) (ys : List Str) : M Str := M.asrt ((ys.map (·.length)).sum + ys.length * a.length ≤ 16777216) (.ok (Txt.join a ys))
theorem we_join {m1 : M Str} {m2 : M (List Str)} (h : We tx Y ta Γ dStr m1) (h2 : We tx Y tb Γ (dList (d := dStr)) m2) : We tx Y (tM1 (rJoinK Y.K) ta tb) Γ dStr (m1 >>= fun a => m2 >>= fun ys => M.join a ys) := fun nb xk e F σ H s Q q =>
  h.k nb xk (k := fun a => W Y tb Γ (dList (d := dStr)) fun ys => ((m1 >>= fun a => m2 >>= fun ys => M.join a ys) = .ok (Txt.join a ys)) ∧ (ys.map (·.length)).sum + ys.length * a.length ≤ 16777216) (fun a ea nb2 xk2 => h2.k nb2 xk2 fun ys ey nb3 xk3 => ⟨by rw [ea]; simp only [M.ok_bind]; rw [ey]; exact M.asrt_pos (M.asrt_nb nb3), M.asrt_nb nb3⟩) e F σ H s _ fun v1 F1 H1 a ha g1 r1 => by
    cases (show v1 = .str a from r1)
    refine ⟨⟨a, rfl⟩, ha e F1 σ H1 (s.grow g1) _ fun v2 F2 H2 ys ⟨hm, hl⟩ g2 ⟨p, us, e2, hq, r⟩ => ?_⟩
    subst e2
    rw [Reps.strs r] at hq
    exact ⟨a, p, ys, rfl, rfl, .inl (g2.fh.seq hq), hl, q _ F2 H2 _ hm (g1.trans g2) rfl⟩
end
section
variable {α β : Type} {d : Dat α} {tx : XC → Addr} {Y : YC} {Γ : List Cell} {tl : TE}
/-- [new .. for x in xs], xs a tuple -/
theorem ico_tup {m : M (Tup α)} (h : We tx Y tl Γ (dTup (d := d)) m) : IcO tx Y (iTupB Y.K tl) Γ d (m >>= fun xs => .ok xs.l) := fun nb xk β d2 od g tt te vs kx hT hb e F σ H s Q q => h.k nb xk (k := fun xs => m = .ok xs) (fun xs e _ _ => e) e F σ H s _ fun v F1 H1 xs hm g1 ⟨a, us, e1, hq, r⟩ => by
  subst e1
  refine ⟨a, us, rfl, (hq.mono g1.fh).sq, fun hz D hD => ?_⟩
  obtain ⟨I, h0, hs, hd⟩ := hb xs.l (by rw [hm]; rfl) (by rw [← r.len]; exact hz)
  have kw0 : Wk ⟨F1, H1, []⟩ F1 [(D, .lst [])] (upd H1 D (.lst [])) := g1.base.own hD (fun _ z => by cases z)
  refine lc_tup (K := Y.K) (a := a) (xs := us) (fun i H => ∃ F' acc ys L, Wk ⟨F1, H1, []⟩ F' ((D, .lst acc) :: L) H ∧ OReps od Y.g F' acc ys L ∧ I i ys) ⟨F1, [], [], [], kw0, rfl, h0⟩ (fun i H _ ⟨F', acc, ys, L, kw, _⟩ => (hq.mono (kw.ff.trans kw.fh)).sq) (fun i w H hw p => ?_) fun H ⟨F', acc, ys, L, kw, ra, hi⟩ => ?_
  · obtain ⟨x, hx, rx⟩ := r.getV hw
    exact compO_turn (s.grow g1) hT.1 (hs i x · hx) (fun F' sm => d.mono sm rx) p
  · rw [r.len] at hi
    exact q _ F' H _ ys (hd ys hi) (by simpa using g1.trans kw) ⟨D, acc, L, rfl, rfl, ra⟩
end
end G
end

/-! GM: groups of a graph, in plain Lean. -/
namespace G
def Adj (pts : List Int) (ties : List (Int × Int)) (a b : Int) : Prop := a ∈ pts ∧ b ∈ pts ∧ ((a, b) ∈ ties ∨ (b, a) ∈ ties)
theorem Adj.symm {pts : List Int} {ties : List (Int × Int)} {a b : Int} (h : Adj pts ties a b) : Adj pts ties b a := ⟨h.2.1, h.1, h.2.2.symm⟩
inductive Reach (pts : List Int) (ties : List (Int × Int)) : Int → Int → Prop where
  | refl (x : Int) : Reach pts ties x x
  | tail {x y z : Int} (h : Reach pts ties x y) (a : Adj pts ties y z) : Reach pts ties x z
section
variable {pts : List Int} {ties : List (Int × Int)}
theorem Reach.trans {x y z : Int} (h : Reach pts ties x y) (g : Reach pts ties y z) : Reach pts ties x z := by
  induction g with
  | refl => exact h
  | tail _ a ih => exact .tail ih a
theorem Reach.symm {x y : Int} (h : Reach pts ties x y) : Reach pts ties y x := by
  induction h with
  | refl => exact .refl _
  | tail _ a ih => exact (Reach.tail (.refl _) a.symm).trans ih
theorem Reach.mem {x y : Int} (h : Reach pts ties x y) (hx : x ∈ pts) : y ∈ pts := by
  cases h with
  | refl => exact hx
  | tail _ a => exact a.2.1
noncomputable instance decReach {pts : List Int} {ties : List (Int × Int)} {x y : Int} : Decidable (Reach pts ties x y) := Classical.propDecidable _
def IsMin (pts : List Int) (ties : List (Int × Int)) (p : Int) : Prop := ∀ q ∈ pts, Reach pts ties p q → p ≤ q
noncomputable instance decMin {pts : List Int} {ties : List (Int × Int)} {x : Int} : Decidable (IsMin pts ties x) := Classical.propDecidable _
/-! near -/
/-! the search -/
/-- what holds while the group of p is searched: s0 is what was seen ahead of it -/
structure Dfs (pts : List Int) (ties : List (Int × Int)) (s0 : List Int) (p : Int) (seen group waiting : List Int) : Prop where
  nd : (group ++ waiting).Nodup
  sn : seen.Nodup
  mem : ∀ x, x ∈ seen ↔ x ∈ s0 ∨ x ∈ group ++ waiting
  re : ∀ x ∈ group ++ waiting, Reach pts ties p x ∧ x ∈ pts
  clo : ∀ x ∈ group, ∀ z, Adj pts ties x z → z ∈ seen
  st : p ∈ group ++ waiting
  /-- what is seen is of the points -/
  sub : ∀ x ∈ seen, x ∈ pts
theorem len_le {α : Type} [DecidableEq α] : ∀ {xs pts : List α}, xs.Nodup → (∀ x ∈ xs, x ∈ pts) → xs.length ≤ pts.length
  | [], _, _, _ => Nat.zero_le _
  | x :: xs, pts, h, hs => by
    have hx := hs x List.mem_cons_self
    have h1 := List.nodup_cons.mp h
    have ih := len_le (xs := xs) (pts := pts.erase x) h1.2 fun y hy => (List.mem_erase_of_ne (fun z => h1.1 (by rw [← z]; exact hy))).mpr (hs y (List.mem_cons_of_mem _ hy))
    have hl := List.length_erase_of_mem hx
    have hp := List.length_pos_of_mem hx
    simp only [List.length_cons]
    omega
/-- one neighbour more -/
theorem Dfs.push {s0 seen group waiting : List Int} {p m z : Int} (h : Dfs pts ties s0 p seen group waiting) (hm : m ∈ group) (a : Adj pts ties m z) (hz : z ∉ seen) :
    Dfs pts ties s0 p (seen ++ [z]) group (waiting ++ [z]) := by
  have h1 : z ∉ s0 := fun q => hz ((h.mem z).mpr (.inl q))
  have h2 : z ∉ group ++ waiting := fun q => hz ((h.mem z).mpr (.inr q))
  have hr := h.re m (List.mem_append_left _ hm)
  refine ⟨?_, ?_, fun x => ?_, fun x hx => ?_, fun x hx y ay => ?_, ?_, fun x hx => ?_⟩
  · rw [← List.append_assoc]
    refine List.nodup_append.mpr ⟨h.nd, by simp, fun x hx y hy e => ?_⟩
    rw [List.mem_singleton] at hy
    subst e hy
    exact h2 hx
  · refine List.nodup_append.mpr ⟨h.sn, by simp, fun x hx y hy e => ?_⟩
    rw [List.mem_singleton] at hy
    subst e hy
    exact hz hx
  · rw [← List.append_assoc, List.mem_append, List.mem_append, h.mem x, or_assoc]
  · rw [← List.append_assoc, List.mem_append, List.mem_singleton] at hx
    rcases hx with hx | rfl
    · exact h.re x hx
    · exact ⟨.tail hr.1 a, a.2.1⟩
  · exact List.mem_append_left _ (h.clo x hx y ay)
  · rw [← List.append_assoc]; exact List.mem_append_left _ h.st
  · rcases List.mem_append.mp hx with hx | hx
    · exact h.sub x hx
    · rw [List.mem_singleton] at hx; subst hx; exact a.2.1
/-- .. in the midst of the neighbours of m, which the group holds: done are those that were looked at -/
structure Dfs2 (pts : List Int) (ties : List (Int × Int)) (s0 : List Int) (p : Int) (seen group waiting : List Int) (m : Int) (done : List Int) : Prop where
  nd : (group ++ waiting).Nodup
  sn : seen.Nodup
  mem : ∀ x, x ∈ seen ↔ x ∈ s0 ∨ x ∈ group ++ waiting
  re : ∀ x ∈ group ++ waiting, Reach pts ties p x ∧ x ∈ pts
  clo : ∀ x ∈ group, x ≠ m → ∀ z, Adj pts ties x z → z ∈ seen
  st : p ∈ group ++ waiting
  sub : ∀ x ∈ seen, x ∈ pts
  hm : m ∈ group
  dn : ∀ z ∈ done, z ∈ seen
theorem Dfs.take {s0 seen group ws : List Int} {p m : Int} (h : Dfs pts ties s0 p seen group (ws ++ [m])) : Dfs2 pts ties s0 p seen (group ++ [m]) ws m [] := by
  have hp : ((group ++ [m]) ++ ws).Perm (group ++ (ws ++ [m])) := by
    rw [List.append_assoc]
    exact List.Perm.append_left _ List.perm_append_comm
  refine ⟨hp.nodup_iff.mpr h.nd, h.sn, fun x => by rw [h.mem x, hp.mem_iff], fun x hx => h.re x (hp.mem_iff.mp hx), fun x hx hne z a => ?_, hp.mem_iff.mpr h.st, h.sub, by simp, fun z hz => (nomatch hz)⟩
  rcases List.mem_append.mp hx with hx | hx
  · exact h.clo x hx z a
  · exact absurd (List.mem_singleton.mp hx) hne
theorem Dfs2.push {s0 seen group waiting dn : List Int} {p m z : Int} (h : Dfs2 pts ties s0 p seen group waiting m dn) (a : Adj pts ties m z) (hz : z ∉ seen) : Dfs2 pts ties s0 p (seen ++ [z]) group (waiting ++ [z]) m (dn ++ [z]) := by
  have h2 : z ∉ group ++ waiting := fun q => hz ((h.mem z).mpr (.inr q))
  refine ⟨?_, nodup_snoc h.sn hz, fun x => ?_, fun x hx => ?_, fun x hx hne y ay => List.mem_append_left _ (h.clo x hx hne y ay), ?_, fun x hx => ?_, h.hm, fun x hx => ?_⟩
  · rw [← List.append_assoc]; exact nodup_snoc h.nd h2
  · rw [← List.append_assoc, List.mem_append, List.mem_append, h.mem x, or_assoc]
  · rw [← List.append_assoc, List.mem_append, List.mem_singleton] at hx
    rcases hx with hx | rfl
    · exact h.re x hx
    · exact ⟨.tail (h.re m (List.mem_append_left _ h.hm)).1 a, a.2.1⟩
  · rw [← List.append_assoc]; exact List.mem_append_left _ h.st
  · rcases List.mem_append.mp hx with hx | hx
    · exact h.sub x hx
    · rw [List.mem_singleton] at hx; subst hx; exact a.2.1
  · rcases List.mem_append.mp hx with hx | hx
    · exact List.mem_append_left _ (h.dn x hx)
    · exact List.mem_append_right _ hx
theorem Dfs2.back {s0 seen group waiting dn : List Int} {p m : Int} (h : Dfs2 pts ties s0 p seen group waiting m dn) (hd : ∀ z, Adj pts ties m z → z ∈ dn) : Dfs pts ties s0 p seen group waiting :=
  ⟨h.nd, h.sn, h.mem, h.re, fun x hx z a => by
    by_cases e : x = m
    · subst e; exact h.dn z (hd z a)
    · exact h.clo x hx e z a, h.st, h.sub⟩
/-- the search is over -/
theorem Dfs.done {s0 seen group : List Int} {p : Int} (h : Dfs pts ties s0 p seen group []) (h0 : ∀ x y, x ∈ s0 → Reach pts ties x y → y ∈ s0) (hp : p ∉ s0) (x : Int) : x ∈ group ↔ x ∈ pts ∧ Reach pts ties p x := by
  have hg : ∀ y, y ∈ group ++ [] ↔ y ∈ group := fun y => by simp
  constructor
  · intro hx
    have := h.re x ((hg x).mpr hx)
    exact ⟨this.2, this.1⟩
  · rintro ⟨hx, hr⟩
    clear hx
    induction hr with
    | refl => exact (hg p).mp h.st
    | @tail y z hy a ih =>
      have := (h.mem z).mp (h.clo y ih z a)
      rcases this with q | q
      · exact absurd (h0 z p q (Reach.tail hy a).symm) hp
      · exact (hg z).mp q
/-- what has been seen behind the points xs -/
structure Seen (pts : List Int) (ties : List (Int × Int)) (xs seen : List Int) : Prop where
  nd : seen.Nodup
  mem : ∀ x, x ∈ seen ↔ x ∈ pts ∧ ∃ q ∈ xs, Reach pts ties q x
theorem Seen.clo {xs seen : List Int} (h : Seen pts ties xs seen) (x y : Int) (hx : x ∈ seen) (hr : Reach pts ties x y) : y ∈ seen := by
  obtain ⟨h1, q, hq, h2⟩ := (h.mem x).mp hx
  exact (h.mem y).mpr ⟨hr.mem h1, q, hq, h2.trans hr⟩
theorem Seen.start {xs seen : List Int} {p : Int} (h : Seen pts ties xs seen) (hp : p ∈ pts) (hn : p ∉ seen) : Dfs pts ties seen p (seen ++ [p]) [] [p] := by
  refine ⟨by simp, ?_, fun x => by simp, fun x hx => ?_, fun x hx => (nomatch hx), by simp, fun x hx => ?_⟩
  · refine List.nodup_append.mpr ⟨h.nd, by simp, fun x hx y hy e => ?_⟩
    rw [List.mem_singleton] at hy
    subst e hy
    exact hn hx
  · have e : x = p := by simpa using hx
    subst e
    exact ⟨.refl _, hp⟩
  · rcases List.mem_append.mp hx with hx | hx
    · exact ((h.mem x).mp hx).1
    · rw [List.mem_singleton] at hx; subst hx; exact hp
theorem Seen.next {xs seen seen' group : List Int} {p : Int} (h : Seen pts ties xs seen) (hn : p ∉ seen) (hd : Dfs pts ties seen p seen' group []) : Seen pts ties (xs ++ [p]) seen' := by
  refine ⟨hd.sn, fun x => ?_⟩
  have q := hd.done (fun a b => h.clo a b) hn x
  rw [hd.mem x, List.append_nil, q, h.mem x]
  constructor
  · rintro (⟨h1, y, hy, h2⟩ | ⟨h1, h2⟩)
    · exact ⟨h1, y, List.mem_append_left _ hy, h2⟩
    · exact ⟨h1, p, by simp, h2⟩
  · rintro ⟨h1, y, hy, h2⟩
    rcases List.mem_append.mp hy with hy | hy
    · exact .inl ⟨h1, y, hy, h2⟩
    · rw [List.mem_singleton] at hy; subst hy; exact .inr ⟨h1, h2⟩
/-! groups hang together -/
end
end G

/-! PM: models of the helpers that the laws share, and of the program (printed by gen3.py). -/
namespace PM
open PySem L2 G
/-- _law_cell -/
noncomputable def l_cell_m (script : (Sq Int)) (k : Int) : M Int :=
  if (decide (k < (script.l.length : Int))) then
  (M.ix script.l k)
else
  (M.ok (0 : Int))
/-- _law_draws -/
noncomputable def l_draws_m (cell_here : Int) (many : Int) : M (List Int) :=
  (M.ok (if cell_here < 0 then -cell_here else cell_here)) >>= fun rest_1 =>
  (M.ok (decide ((1000000000000000000 : Int) ≤ rest_1))) >>= fun exact_2 =>
  (M.ok ((rest_1 % (2147483629 : Int)) + (17 : Int))) >>= fun mixed_3 =>
  (M.ok ([] : (List Int))) >>= fun draws_here_4 =>
  (M.range many) >>= fun l12 =>
  M.fold (fun (s5 : (Int × Int × (List Int))) x6 =>
    (M.ok ((((s5.2.1 * (48271 : Int)) + ((9973 : Int) * x6)) + (11 : Int)) % (2147483647 : Int))) >>= fun mixed_7 =>
      if (exact_2 && (decide ((0 : Int) < s5.1))) then
      M.push s5.2.2 (M.ok (s5.1 % (60 : Int))) >>= fun draws_here_8 =>
        (M.ok (s5.1 / (60 : Int))) >>= fun rest_9 =>
        M.ok (rest_9, mixed_7, draws_here_8)
    else
      M.push s5.2.2 (M.ok ((mixed_7 / (13 : Int)) % (60 : Int))) >>= fun draws_here_10 =>
        M.ok (s5.1, mixed_7, draws_here_10)) (rest_1, mixed_3, draws_here_4) l12 >>= fun (s11 : (Int × Int × (List Int))) =>
  M.ok s11.2.2
/-- _law_pick -/
noncomputable def l_pick_m (draws_here : (List Int)) (k : Int) (many : Int) : M Int :=
  if ((decide (many < (2 : Int))) || (decide ((draws_here.length : Int) = (0 : Int)))) then
  (M.ok (0 : Int))
else
  (((M.asrt (0 < (draws_here.length : Int)) (.ok (k % (draws_here.length : Int)))) >>= fun t1 => (M.ix draws_here t1)) >>= fun t2 => (M.asrt (0 < many) (.ok (t2 % many))))
/-- _law_web -/
noncomputable def l_web_m (draws_here : (List Int)) (most_places : Int) (most_ties : Int) : M ((List Int) × (List (T4 Int Int Int Int))) :=
  (M.ok [(2 : Int), (2 : Int), (3 : Int), (2 : Int), (1 : Int), (4 : Int)]) >>= fun menu_1 =>
  (l_pick_m draws_here (0 : Int) (most_places + (1 : Int))) >>= fun many_2 =>
  ((M.range many_2) >>= M.comp (fun _ => (M.ok true)) (fun x3 => ((l_pick_m draws_here ((2 : Int) + x3) (6 : Int)) >>= fun t4 => (M.ix menu_1 t4)))) >>= fun sides_5 =>
  (M.ok ([] : (List (T4 Int Int Int Int)))) >>= fun ties_6 =>
  ((l_pick_m draws_here (1 : Int) (most_ties + (1 : Int))) >>= fun t8 => (M.range t8)) >>= fun l19 =>
  M.fold (fun (s7 : (List (T4 Int Int Int Int))) x9 =>
    if (decide ((0 : Int) < many_2)) then
      (M.ok (((2 : Int) + many_2) + ((4 : Int) * x9))) >>= fun at__10 =>
        (l_pick_m draws_here at__10 many_2) >>= fun one_11 =>
        (l_pick_m draws_here (at__10 + (2 : Int)) many_2) >>= fun other_12 =>
        ((M.ix sides_5 one_11) >>= fun t13 => (l_pick_m draws_here (at__10 + (1 : Int)) t13)) >>= fun side_14 =>
        M.push s7 (((M.ix sides_5 other_12) >>= fun t15 => (l_pick_m draws_here (at__10 + (3 : Int)) t15)) >>= fun t16 => (M.ok ⟨one_11, side_14, other_12, t16⟩)) >>= fun ties_17 =>
        M.ok ties_17
    else
      M.ok s7) ties_6 l19 >>= fun (s18 : (List (T4 Int Int Int Int))) =>
  (M.ok (sides_5, s18))
/-- check_end -/
noncomputable def p_check_end_m (sides : (List Int)) (place : Int) (side : Int) : M Unit :=
  if ((decide (place < (0 : Int))) || (decide ((sides.length : Int) ≤ place))) then
  M.raise1 .UnknownPlace "place" (M.ok place)
else
  (if (decide (side < (0 : Int))) then .ok true else ((M.ix sides place) >>= fun t1 => (M.ok (decide (t1 ≤ side))))) >>= fun b2 => if b2 then
    M.raise2 .UnknownSide "place" "side" (M.ok place) (M.ok side)
  else
    M.ok ()
/-- Web.__init__ -/
noncomputable def m_WebX_initX_m (sides : (List Int)) (ties : (List (T4 Int Int Int Int))) : M WebM :=
  if (decide ((200 : Int) < (sides.length : Int))) then
  M.raise1 .TooLarge "limit" (M.ok (200 : Int))
else
  if (decide ((300 : Int) < (ties.length : Int))) then
    M.raise1 .TooLarge "limit" (M.ok (300 : Int))
  else
    (M.ok (M.enumL sides)) >>= fun l12 =>
      M.fold (fun (_ : Unit) x2 =>
        if ((decide (x2.2 < (1 : Int))) || (decide ((4 : Int) < x2.2))) then
          M.raise1 .BadSides "place" (M.ok x2.1)
        else
          M.ok ()) () l12 >>= fun (_ : Unit) =>
      (M.ok ties) >>= fun l11 =>
      M.fold (fun (_ : Unit) x5 =>
        (p_check_end_m sides x5.a x5.b) >>= fun _ =>
          (p_check_end_m sides x5.c x5.d) >>= fun _ =>
          M.ok ()) () l11 >>= fun (_ : Unit) =>
      (M.ok ⟨sides⟩) >>= fun f_7 =>
      ((M.comp (fun _ => (M.ok true)) (fun x8 => (M.ok ⟨x8.a, x8.b, x8.c, x8.d⟩)) ties) >>= fun t9 => (M.ok ⟨t9⟩)) >>= fun f_10 =>
      M.ok ⟨f_7, f_10⟩
/-- Web.back -/
noncomputable def m_Web_back_m (step : (Int × Int)) : M (Int × Int) :=
  (M.ok (step.1, ((1 : Int) - step.2)))
/-- Web.tail -/
noncomputable def m_Web_tail_m (self : WebM) (step : (Int × Int)) : M (Int × Int) :=
  (M.ok step) >>= fun t1 =>
  if ((decide (t1.1 < (0 : Int))) || (decide ((self.b.l.length : Int) ≤ t1.1))) then
  M.raise1 .UnknownTie "tie" (M.ok t1.1)
else
  (M.ix self.b.l t1.1) >>= fun t2 =>
    if (decide (t1.2 = (0 : Int))) then
    (M.ok (t2.a, t2.b))
  else
    (M.ok (t2.c, t2.d))
/-- Web.__contains__ -/
noncomputable def m_WebX_containsX_m (self : WebM) (place : Int) : M Bool :=
  (M.ok ((decide ((0 : Int) ≤ place)) && (decide (place < (self.a.l.length : Int)))))
/-- Web.steps_from -/
noncomputable def m_Web_steps_from_m (self : WebM) (place : Int) : M (List (Int × Int)) :=
  (M.calm (m_WebX_containsX_m self place) >>= fun b1 => .ok (!b1)) >>= fun b10 => if b10 then
  M.raise1 .UnknownPlace "place" (M.ok place)
else
  (M.ok ([] : (List (Int × Int)))) >>= fun found_2 =>
    (M.ok (M.enumL self.b.l)) >>= fun l9 =>
    M.fold (fun (s3 : (List (Int × Int))) x4 =>
      (if (decide (x4.2.a = place)) then
        M.push s3 (M.ok (x4.1, (0 : Int))) >>= fun found_5 =>
          M.ok found_5
      else
        M.ok s3) >>= (fun s6 : (List (Int × Int)) =>
        if (decide (x4.2.c = place)) then
        M.push s6 (M.ok (x4.1, (1 : Int))) >>= fun found_7 =>
          M.ok found_7
      else
        M.ok s6)) found_2 l9 >>= fun (s8 : (List (Int × Int))) =>
    M.ok s8
/-- _law_is_number -/
noncomputable def l_is_number_m (told : Int) : M Bool :=
  (M.ok (true && (!false)))
/-- Web.used_sides -/
noncomputable def m_Web_used_sides_m (self : WebM) (place : Int) : M (List Int) :=
  (((m_Web_steps_from_m self place) >>= M.scomp (fun _ => (M.ok true)) (fun x1 => ((m_Web_tail_m self x1) >>= fun t2 => (M.ok t2.2)))) >>= fun t3 => (M.sortS t3))
/-- Web.joints -/
noncomputable def m_Web_joints_m (self : WebM) : M (Tup Int) :=
  (((M.range (self.a.l.length : Int)) >>= M.comp (fun x1 => (((m_Web_used_sides_m self x1) >>= fun t2 => (M.ok (t2.length : Int))) >>= fun t3 => (M.ok (decide ((1 : Int) < t3))))) (fun x1 => (M.ok x1))) >>= fun t4 => (M.ok ⟨t4⟩))
/-- _law_numbers -/
noncomputable def l_numbers_m (told : (List Int)) : M Bool :=
  (if true then ((M.comp (fun _ => (M.ok true)) (fun x1 => (M.ok (true && (!false)))) told) >>= fun t2 => (M.ok (t2.all id))) else .ok false)
/-- reversed_steps -/
noncomputable def p_reversed_steps_m (steps : (List (Int × Int))) : M (List (Int × Int)) :=
  (M.comp (fun _ => (M.ok true)) (fun x1 => (m_Web_back_m x1)) steps.reverse)
/-- normal_cycle -/
noncomputable def p_normal_cycle_m (steps : (List (Int × Int))) : M (List (Int × Int)) :=
  ((M.comp (fun _ => (M.ok true)) (fun x1 => (M.ok x1.1)) steps) >>= fun t2 => (M.minM t2)) >>= fun low_3 =>
  (M.ok steps) >>= fun walked_4 =>
  (if (!memB (low_3, (0 : Int)) walked_4) then
  (p_reversed_steps_m walked_4) >>= fun walked_5 =>
    M.ok walked_5
else
  M.ok walked_4) >>= (fun s6 : (List (Int × Int)) =>
  (M.idx s6 (low_3, (0 : Int))) >>= fun first_7 =>
  (M.cat (cutL s6 (some first_7) none) (cutL s6 none (some first_7))))
end PM

/-! PB: plain lemmas over the monad. -/
namespace G
open PySem L2
namespace M
variable {α β γ σ ρ : Type}
theorem fold_ok {f : σ → α → M σ} {xs : List α} {s0 : σ} (P : Nat → σ → Prop) (h0 : P 0 s0) (hs : ∀ i x s, xs[i]? = some x → P i s → ∃ s', f s x = .ok s' ∧ P (i + 1) s') : ∃ s, fold f s0 xs = .ok s ∧ P xs.length s := by
  have key : ∀ n, n ≤ xs.length → ∃ s, fold f s0 (xs.take n) = .ok s ∧ P n s := by
    intro n
    induction n with
    | zero => intro _; exact ⟨s0, rfl, h0⟩
    | succ n ih =>
      intro hn
      obtain ⟨s, e, p⟩ := ih (by omega)
      have hx : xs[n]? = some xs[n] := by simp [show n < xs.length by omega]
      obtain ⟨s', e', p'⟩ := hs n xs[n] s hx p
      refine ⟨s', ?_, p'⟩
      rw [List.take_add_one, hx]
      show fold f s0 (xs.take n ++ [xs[n]]) = _
      rw [fold_snoc, e]
      exact e'
  have := key xs.length (Nat.le_refl _)
  rwa [List.take_length] at this
/-- the state behind i turns is told -/
theorem fold_eq {f : σ → α → M σ} {xs : List α} (s0 : σ) (g : Nat → σ) (h0 : g 0 = s0) (hs : ∀ i x, xs[i]? = some x → f (g i) x = .ok (g (i + 1))) : fold f s0 xs = .ok (g xs.length) := by
  obtain ⟨s, e, p⟩ := fold_ok (f := f) (xs := xs) (s0 := s0) (fun i s => s = g i) h0.symm fun i x s hx e => ⟨g (i + 1), by rw [e]; exact hs i x hx, rfl⟩
  rw [e, p]
/-- turns that keep the state -/
theorem fold_unit {f : Unit → α → M Unit} {xs : List α} (h : ∀ x ∈ xs, f () x = .ok ()) : fold f () xs = .ok () :=
  fold_eq () (fun _ => ()) rfl fun i x hx => h x (List.mem_of_getElem? hx)
theorem range_ok {n : Int} (h0 : 0 ≤ n) (h1 : n ≤ 100000) : range n = .ok (rngL 0 n.toNat) := asrt_pos ⟨by omega, Int.le_trans h1 (by decide)⟩
theorem rangeN {n : Nat} (h1 : n ≤ 100000) : range (n : Int) = .ok (rngL 0 n) := by rw [range_ok (by omega) (by omega)]; simp
theorem push_small {xs : List α} {y : α} (h : xs.length ≤ 100000) : push xs (.ok y) = .ok (xs ++ [y]) := push_ok (small1k h)
theorem ix_at {xs : List α} {i : Int} {x : α} (h0 : 0 ≤ i) (h : xs[i.toNat]? = some x) : ix xs i = .ok x := by unfold ix; rw [atI_of h0 h]; rfl
theorem ix_some {xs : List α} {i : Int} (h0 : 0 ≤ i) (h1 : i < xs.length) : ∃ x, xs[i.toNat]? = some x ∧ ix xs i = .ok x := by
  have hlt : i.toNat < xs.length := by omega
  exact ⟨xs[i.toNat], by simp [hlt], ix_at h0 (by simp [hlt])⟩
theorem ix_getD {xs : List α} {i : Int} (d : α) (h0 : 0 ≤ i) (h1 : i < xs.length) : ix xs i = .ok (xs.getD i.toNat d) := by
  obtain ⟨x, hx, e⟩ := ix_some h0 h1
  rw [e, List.getD_eq_getElem?_getD, hx]; rfl
theorem comp_filter {p : α → M Bool} (p' : α → Bool) {xs : List α} (h1 : ∀ x ∈ xs, p x = .ok (p' x)) : comp p (fun x => .ok x) xs = .ok (xs.filter p') := by
  rw [comp_of p' (fun x => x) xs h1 fun _ _ _ => rfl, List.map_id']
theorem comp_mapM {f : α → M β} (f' : α → β) {xs : List α} (h : ∀ x ∈ xs, f x = .ok (f' x)) : comp (fun _ => .ok true) f xs = .ok (xs.map f') := by
  rw [comp_of (fun _ => true) f' xs (fun _ _ => rfl) fun x hx _ => h x hx, List.filter_eq_self.mpr fun _ _ => rfl]
theorem tryK_exc {kn p : XC → Bool} {x : PX} {h : PX → M α} (h1 : kn x.cls = true) (h2 : p x.cls = true) : tryK kn p (.exc x) h = h x := by
  show (if kn x.cls = true then (if p x.cls = true then h x else .exc x) else .bad) = _
  rw [if_pos h1, if_pos h2]
@[simp] theorem tryK_ok {kn p : XC → Bool} {x : α} {h : PX → M α} : tryK kn p (.ok x) h = .ok x := rfl
/-- m ends well, with a value as R says -/
def sat (m : M α) (R : α → Prop) : Prop := ∃ r, m = .ok r ∧ R r
theorem sat_ok {x : α} {R : α → Prop} (h : R x) : sat (.ok x) R := ⟨x, rfl, h⟩
theorem sat_bind {m : M α} {f : α → M β} {R1 : α → Prop} {R : β → Prop} (h : sat m R1) (h2 : ∀ x, R1 x → sat (f x) R) : sat (m >>= f) R := by
  obtain ⟨x, rfl, hx⟩ := h
  exact h2 x hx
theorem sat_if {b : Bool} {m n : M α} {R : α → Prop} (h : b = true → sat m R) (h2 : b = false → sat n R) : sat (if b then m else n) R := by
  cases b with
  | true => exact h rfl
  | false => exact h2 rfl
theorem sat_fold {f : σ → α → M σ} {xs : List α} {s0 : σ} (P : Nat → σ → Prop) (h0 : P 0 s0) (hs : ∀ i x s, xs[i]? = some x → P i s → sat (f s x) (P (i + 1))) : sat (fold f s0 xs) (P xs.length) := fold_ok P h0 hs
theorem sat_push {xs : List α} {m : M α} {R : List α → Prop} (hl : xs.length ≤ 100000) (h : sat m fun y => R (xs ++ [y])) : sat (push xs m) R := by
  obtain ⟨y, rfl, hy⟩ := h
  exact ⟨_, push_ok (small1k hl), hy⟩
end M
theorem rngL_get {lo : Int} {n i : Nat} {x : Int} (h : (rngL lo n)[i]? = some x) : i < n ∧ x = lo + i := by
  rw [← rng_get] at h
  exact rng_some h
theorem mem_rngL {lo : Int} {n : Nat} {x : Int} : x ∈ rngL lo n ↔ lo ≤ x ∧ x < lo + n := by
  unfold rngL
  rw [List.mem_map]
  constructor
  · rintro ⟨i, hi, rfl⟩
    rw [List.mem_range] at hi
    omega
  · intro ⟨h1, h2⟩
    exact ⟨(x - lo).toNat, List.mem_range.mpr (by omega), by omega⟩
theorem rngL_succ (lo : Int) (n : Nat) : rngL lo (n + 1) = rngL lo n ++ [lo + n] := by
  unfold rngL
  rw [List.range_succ, List.map_append]; rfl
end G

/-! PL: what the shared helpers compute. -/
namespace PM
open PySem L2 G
theorem cell_ok (s : Sq Int) {k : Int} (hk : 0 ≤ k) : ∃ x, l_cell_m s k = .ok x := by
  unfold l_cell_m
  split
  · next h =>
    simp at h
    obtain ⟨x, _, e⟩ := M.ix_some hk h
    exact ⟨x, e⟩
  · exact ⟨_, rfl⟩
theorem draws_ok (c : Int) {m : Int} (h0 : 0 ≤ m) (h1 : m ≤ 1000) : ∃ ds, l_draws_m c m = .ok ds := by
  suffices M.sat (l_draws_m c m) fun _ => True from let ⟨d, e, _⟩ := this; ⟨d, e⟩
  unfold l_draws_m
  simp only [M.ok_bind]
  rw [M.range_ok h0 (by omega)]
  simp only [M.ok_bind]
  refine M.sat_bind (M.sat_fold (fun i s => s.2.2.length ≤ i) (Nat.le_refl 0) fun i x s hx hs => ?_) fun s _ => M.sat_ok trivial
  have hi := (rngL_get hx).1
  refine M.sat_if (fun _ => ?_) fun _ => ?_
  · exact M.sat_bind (M.sat_push (R := fun y => y.length ≤ i + 1) (by omega) (M.sat_ok (by simp; omega))) fun y hy => M.sat_ok hy
  · exact M.sat_bind (M.sat_push (R := fun y => y.length ≤ i + 1) (by omega) (M.sat_ok (by simp; omega))) fun y hy => M.sat_ok hy
def pick (d : List Int) (k m : Int) : Int := if m < 2 ∨ d = [] then 0 else d.getD (k % d.length).toNat 0 % m
theorem pick_eq (d : List Int) (k m : Int) : l_pick_m d k m = .ok (pick d k m) := by
  unfold l_pick_m pick
  by_cases h : m < 2 ∨ d = []
  · rw [if_pos h, if_pos]
    simp; exact h
  · rw [if_neg h, if_neg (by simp; exact ⟨by omega, fun z => h (.inr z)⟩)]
    have hd : d ≠ [] := fun z => h (.inr z)
    have hl : 0 < d.length := List.length_pos_iff.mpr hd
    have h1 : 0 ≤ k % (d.length : Int) := Int.emod_nonneg _ (by omega)
    have h2 : k % (d.length : Int) < d.length := Int.emod_lt_of_pos _ (by omega)
    rw [M.asrt_pos (by omega)]
    simp only [M.ok_bind]
    rw [M.ix_getD 0 h1 h2]
    simp only [M.ok_bind]
    rw [M.asrt_pos (by omega)]
theorem pick_range {d : List Int} {k m : Int} (h : 1 ≤ m) : 0 ≤ pick d k m ∧ pick d k m < m := by
  unfold pick
  split
  · omega
  · exact ⟨Int.emod_nonneg _ (by omega), Int.emod_lt_of_pos _ (by omega)⟩
/-- sides and ties that make a web -/
structure Good (sides : List Int) (ties : List T4I) : Prop where
  sd : ∀ s ∈ sides, 1 ≤ s ∧ s ≤ 4
  ti : ∀ x ∈ ties, 0 ≤ x.a ∧ x.a < sides.length ∧ 0 ≤ x.b ∧ x.b < sides.getD x.a.toNat 0 ∧ 0 ≤ x.c ∧ x.c < sides.length ∧ 0 ≤ x.d ∧ x.d < sides.getD x.c.toNat 0
theorem getD_mem {xs : List Int} {i : Int} (h0 : 0 ≤ i) (h1 : i < xs.length) : xs.getD i.toNat 0 ∈ xs := by
  have hlt : i.toNat < xs.length := by omega
  rw [List.getD_eq_getElem?_getD, List.getElem?_eq_getElem hlt]
  exact List.getElem_mem hlt
theorem web_sat (d : List Int) {p t : Int} (hp0 : 0 ≤ p) (hp1 : p ≤ 1000) (ht0 : 0 ≤ t) (ht1 : t ≤ 1000) : M.sat (l_web_m d p t) fun r => Good r.1 r.2 ∧ r.1.length ≤ p.toNat ∧ r.2.length ≤ t.toNat := by
  unfold l_web_m
  simp only [M.ok_bind, pick_eq]
  have hm := pick_range (d := d) (k := 0) (m := p + 1) (by omega)
  generalize pick d 0 (p + 1) = many at hm
  rw [M.range_ok hm.1 (by omega)]
  simp only [M.ok_bind]
  have menu : ∀ k : Int, ∃ x, M.ix ([2, 2, 3, 2, 1, 4] : List Int) (pick d k 6) = .ok x ∧ 1 ≤ x ∧ x ≤ 4 := fun k => by
    have hr := pick_range (d := d) (k := k) (m := 6) (by omega)
    generalize pick d k 6 = j at hr
    obtain ⟨x, hx, e⟩ := M.ix_some (xs := ([2, 2, 3, 2, 1, 4] : List Int)) hr.1 (by simpa using hr.2)
    refine ⟨x, e, ?_⟩
    have hmem := List.mem_of_getElem? hx
    simp at hmem
    omega
  have comp : ∃ sides : List Int, M.comp (fun _ => (M.ok true)) (fun x3 => M.ix ([2, 2, 3, 2, 1, 4] : List Int) (pick d (2 + x3) 6)) (rngL 0 many.toNat) = .ok sides ∧ sides.length = many.toNat ∧ ∀ s ∈ sides, 1 ≤ s ∧ s ≤ 4 := by
    refine ⟨_, M.comp_of (fun _ => true) (fun x3 => (menu (2 + x3)).choose) _ (fun _ _ => rfl) (fun x _ _ => (menu (2 + x)).choose_spec.1), ?_, ?_⟩
    · rw [List.length_map, List.filter_eq_self.mpr fun _ _ => rfl, rngL_len]
    · intro s hs
      rw [List.mem_map] at hs
      obtain ⟨x, _, rfl⟩ := hs
      exact (menu (2 + x)).choose_spec.2
  obtain ⟨sides, es, hl, hsd⟩ := comp
  rw [es]
  simp only [M.ok_bind]
  have hk := pick_range (d := d) (k := 1) (m := t + 1) (by omega)
  generalize pick d 1 (t + 1) = kk at hk
  rw [M.range_ok hk.1 (by omega)]
  simp only [M.ok_bind]
  have hlen : (sides.length : Int) = many := by omega
  refine M.sat_bind (M.sat_fold (fun i (s : List T4I) => Good sides s ∧ s.length ≤ i) ⟨⟨hsd, fun x hx => (nomatch hx)⟩, Nat.le_refl 0⟩ fun i x s hx ⟨hs, hsl⟩ => ?_) fun s ⟨h1, h2⟩ => M.sat_ok ⟨h1, by show sides.length ≤ _; omega, by rw [rngL_len] at h2; show s.length ≤ _; omega⟩
  have hi := (rngL_get hx).1
  refine M.sat_if (fun hb => ?_) fun _ => M.sat_ok ⟨hs, by omega⟩
  have h0 : 0 < many := by simpa using hb
  generalize ((2 : Int) + many) + ((4 : Int) * x) = at_
  have r1 := pick_range (d := d) (k := at_) (m := many) (by omega)
  have r2 := pick_range (d := d) (k := at_ + 2) (m := many) (by omega)
  generalize pick d at_ many = one at r1
  generalize pick d (at_ + 2) many = other at r2
  rw [M.ix_getD 0 r1.1 (by omega), M.ix_getD 0 r2.1 (by omega)]
  simp only [M.ok_bind]
  have g1 := hsd _ (getD_mem (xs := sides) r1.1 (by omega))
  have g2 := hsd _ (getD_mem (xs := sides) r2.1 (by omega))
  have r3 := pick_range (d := d) (k := at_ + 1) (m := sides.getD one.toNat 0) (by omega)
  have r4 := pick_range (d := d) (k := at_ + 3) (m := sides.getD other.toNat 0) (by omega)
  rw [M.push_small (by omega)]
  refine ⟨_, rfl, ⟨hsd, fun y hy => ?_⟩, by simp; omega⟩
  rcases List.mem_append.mp hy with hy | hy
  · exact hs.ti y hy
  · rw [List.mem_singleton] at hy
    subst hy
    exact ⟨r1.1, by show one < (sides.length : Int); omega, r3.1, r3.2, r2.1, by show other < (sides.length : Int); omega, r4.1, r4.2⟩
theorem check_ok {sides : List Int} {p s : Int} (h1 : 0 ≤ p) (h2 : p < sides.length) (h3 : 0 ≤ s) (h4 : s < sides.getD p.toNat 0) : p_check_end_m sides p s = .ok () := by
  unfold p_check_end_m
  rw [if_neg (by simp; omega), if_neg (by simp; omega), M.ix_getD 0 h1 h2]
  simp only [M.ok_bind]
  rw [if_neg (by simp only [decide_eq_true_eq]; omega)]
theorem init_ok {sides : List Int} {ties : List T4I} (h : Good sides ties) (hs : sides.length ≤ 200) (ht : ties.length ≤ 300) : m_WebX_initX_m sides ties = .ok ⟨⟨sides⟩, ⟨ties⟩⟩ := by
  unfold m_WebX_initX_m
  rw [if_neg (by simp; omega), if_neg (by simp; omega)]
  simp only [M.ok_bind]
  rw [M.fold_unit fun x hx => ?_]
  simp only [M.ok_bind]
  rw [M.fold_unit fun x hx => ?_]
  simp only [M.ok_bind]
  · rw [M.comp_map]
    simp only [M.ok_bind]
    have : (ties.map fun x8 : T4I => (⟨x8.a, x8.b, x8.c, x8.d⟩ : T4I)) = ties := by
      refine (List.map_congr_left fun x _ => ?_).trans (List.map_id ties)
      cases x; rfl
    rw [this]
  · obtain ⟨a, b, c, d, e, f, g, i⟩ := h.ti x hx
    rw [check_ok a b c d, check_ok e f g i]; rfl
  · unfold M.enumL at hx
    rw [List.mem_map] at hx
    obtain ⟨p, hp, rfl⟩ := hx
    have hm : p.1 ∈ sides := by
      have := List.mem_zipIdx hp
      rw [this.2.2]
      exact List.getElem_mem _
    have := h.sd _ hm
    rw [if_neg (by simp; omega)]
/-! steps -/
def tl (ties : List T4I) (s : Int × Int) : Int × Int := let x := ties.getD s.1.toNat ⟨0, 0, 0, 0⟩; if s.2 = 0 then (x.a, x.b) else (x.c, x.d)
def bk (s : Int × Int) : Int × Int := (s.1, 1 - s.2)
/-- the step walks a tie -/
def IsStep (ties : List T4I) (s : Int × Int) : Prop := 0 ≤ s.1 ∧ s.1 < ties.length ∧ (s.2 = 0 ∨ s.2 = 1)
theorem IsStep.bk {ties : List T4I} {s : Int × Int} (h : IsStep ties s) : IsStep ties (bk s) := ⟨h.1, h.2.1, by rcases h.2.2 with e | e <;> simp [PM.bk, e]⟩
theorem tail_eq {w : WebM} {s : Int × Int} (h0 : 0 ≤ s.1) (h1 : s.1 < w.b.l.length) : m_Web_tail_m w s = .ok (tl w.b.l s) := by
  unfold m_Web_tail_m tl
  simp only [M.ok_bind]
  rw [if_neg (by simp; omega), M.ix_getD ⟨0, 0, 0, 0⟩ h0 h1]
  simp only [M.ok_bind]
  by_cases h : s.2 = 0
  · rw [if_pos (by simpa using h), if_pos h]
  · rw [if_neg (by simpa using h), if_neg h]
theorem has_eq (w : WebM) (p : Int) : m_WebX_containsX_m w p = .ok (decide (0 ≤ p) && decide (p < w.a.l.length)) := rfl
/-- all steps, ascending -/
def allSteps : Nat → List (Int × Int)
  | 0 => []
  | n + 1 => allSteps n ++ [((n : Int), 0), ((n : Int), 1)]
theorem mem_allSteps {n : Nat} {s : Int × Int} : s ∈ allSteps n ↔ 0 ≤ s.1 ∧ s.1 < n ∧ (s.2 = 0 ∨ s.2 = 1) := by
  induction n with
  | zero => simp [allSteps]; omega
  | succ n ih =>
    obtain ⟨t, d⟩ := s
    simp only [allSteps, List.mem_append, ih, List.mem_cons, Prod.mk.injEq, List.not_mem_nil, or_false]
    omega
theorem allSteps_len (n : Nat) : (allSteps n).length = 2 * n := by
  induction n with
  | zero => rfl
  | succ n ih => simp [allSteps, ih]; omega
theorem steps_from_eq {w : WebM} {p : Int} (h0 : 0 ≤ p) (h1 : p < w.a.l.length) (hn : w.b.l.length ≤ 10000) : m_Web_steps_from_m w p = .ok ((allSteps w.b.l.length).filter fun s => decide ((tl w.b.l s).1 = p)) := by
  unfold m_Web_steps_from_m
  rw [has_eq, decide_eq_true h0, decide_eq_true h1]
  simp only [Bool.and_self, M.calm_of_ok, M.ok_bind, Bool.not_true]
  rw [if_neg (by simp)]
  rw [M.fold_eq [] (fun i => (allSteps i).filter fun s => decide ((tl w.b.l s).1 = p)) rfl fun i x hx => ?_]
  · rw [M.enumL_len]; rfl
  · rw [← M.enumL_get] at hx
    unfold enumI at hx
    obtain ⟨y, hy, rfl⟩ := Option.map_eq_some_iff.mp hx
    have hi : i < w.b.l.length := (List.getElem?_eq_some_iff.mp hy).1
    have e0 : w.b.l.getD i ⟨0, 0, 0, 0⟩ = y := by rw [List.getD_eq_getElem?_getD, hy]; rfl
    have e1 : tl w.b.l ((i : Int), 0) = (y.a, y.b) := by unfold tl; simp only [Int.toNat_natCast, e0, if_true]
    have e2 : tl w.b.l ((i : Int), 1) = (y.c, y.d) := by unfold tl; simp only [Int.toNat_natCast, e0]; rw [if_neg (by decide)]
    have hl : ((allSteps i).filter fun s => decide ((tl w.b.l s).1 = p)).length ≤ 2 * i := by rw [← allSteps_len i]; exact List.length_filter_le _ _
    show _ = M.ok ((allSteps i ++ [((i : Int), 0), ((i : Int), 1)]).filter _)
    rw [List.filter_append]
    simp only [List.filter_cons, e1, e2, List.filter_nil]
    by_cases ha : y.a = p
    · rw [if_pos (by simpa using ha), M.push_small (by omega)]
      simp only [M.ok_bind]
      by_cases hc : y.c = p
      · rw [if_pos (by simpa using hc), M.push_small (by simp; omega)]
        simp [ha, hc]
      · rw [if_neg (by simpa using hc)]
        simp [ha, hc]
    · rw [if_neg (by simpa using ha)]
      simp only [M.ok_bind]
      by_cases hc : y.c = p
      · rw [if_pos (by simpa using hc), M.push_small (by omega)]
        simp [ha, hc]
      · rw [if_neg (by simpa using hc)]
        simp [ha, hc]
end PM

/-! PG: loops with an invariant; what grouped computes; paired webs. -/
namespace G
open PySem L2
namespace M
variable {α β γ σ ρ : Type}
/-- a for whose turns may leave -/
theorem sat_foldC {f : σ → α → M (Ct σ ρ)} {Q : Ct σ ρ → Prop} : ∀ {xs : List α} {s0 : σ} (P : Nat → σ → Prop), P 0 s0 → (∀ i x s, xs[i]? = some x → P i s → sat (f s x) fun c => match c with | .nx s' => P (i + 1) s' | c => Q c) → (∀ s, P xs.length s → Q (.nx s)) → sat (foldC f s0 xs) Q
  | [], s0, P, h0, _, he => ⟨_, rfl, he s0 h0⟩
  | x :: xs, s0, P, h0, hs, he => by
    obtain ⟨c, e, hc⟩ := hs 0 x s0 rfl h0
    simp only [foldC]
    rw [e]
    simp only [ok_bind]
    cases c with
    | nx s' => exact sat_foldC (fun i s => P (i + 1) s) hc (fun i y s hy hp => hs (i + 1) y s hy hp) fun s hp => he s hp
    | rt r => exact ⟨_, rfl, hc⟩
    | bk s' => exact ⟨_, rfl, hc⟩
theorem sat_val {m : M α} {x : α} (h : sat m (· = x)) : m = .ok x := by obtain ⟨y, e, rfl⟩ := h; exact e
end M
end G
namespace PM
open PySem L2 G
end PM
namespace G
open PySem L2
namespace M
variable {α β γ σ ρ : Type}
end M
end G
namespace PM
open PySem L2 G
end PM
namespace PM
open PySem L2 G
end PM

/-! PW: wirings: what the shared makers make, and that Wiring takes it. -/
namespace PM
open PySem L2 G
theorem rngL_nodup (lo : Int) (n : Nat) : (rngL lo n).Nodup := by
  unfold rngL
  exact List.pairwise_map.mpr (List.Pairwise.imp (fun h z => h (by omega)) List.nodup_range)
/-- the leaves of links, in their order -/
def flat (L : List (Int × Int)) : List Int := L.flatMap fun x => [x.1, x.2]
def parts (N : List (T3 Str Int Int)) : List Int := N.flatMap fun x => [x.b, x.c]
theorem flat_app (a b : List (Int × Int)) : flat (a ++ b) = flat a ++ flat b := List.flatMap_append
structure GoodL (L : List (Int × Int)) : Prop where
  pos : 0 < L.length
  most : L.length ≤ 40
  pm : (flat L).Perm (rngL 0 (2 * L.length))
theorem flat_split {L : List (Int × Int)} {i : Nat} {x : Int × Int} (h : L[i]? = some x) : flat L = flat (L.take i) ++ (x.1 :: x.2 :: flat (L.drop (i + 1))) := by
  obtain ⟨hl, e⟩ := List.getElem?_eq_some_iff.mp h
  have : L = L.take i ++ ([x] ++ L.drop (i + 1)) := by
    conv => lhs; rw [← List.take_append_drop i L]
    rw [List.drop_eq_getElem_cons hl, e]; rfl
  conv => lhs; rw [this]
  rw [flat_app, flat_app]; rfl
theorem flat_len (L : List (Int × Int)) : (flat L).length = 2 * L.length := by
  induction L with
  | nil => rfl
  | cons x L ih => show (x.1 :: x.2 :: flat L).length = _; simp [ih]; omega
theorem GoodL.mem {L : List (Int × Int)} (g : GoodL L) {i : Nat} {x : Int × Int} (h : L[i]? = some x) : (0 ≤ x.1 ∧ x.1 < 2 * L.length) ∧ (0 ≤ x.2 ∧ x.2 < 2 * L.length) := by
  have m1 : x.1 ∈ flat L := by rw [flat_split h]; simp
  have m2 : x.2 ∈ flat L := by rw [flat_split h]; simp
  have q1 := mem_rngL.mp (g.pm.mem_iff.mp m1)
  have q2 := mem_rngL.mp (g.pm.mem_iff.mp m2)
  omega
theorem GoodL.nd {L : List (Int × Int)} (g : GoodL L) : (flat L).Nodup := (List.Perm.nodup_iff g.pm).mpr (rngL_nodup _ _)
end PM

/-! PS: _law_same of a thing and itself. -/
namespace PM
open PySem L2 G
/-- plain data of this depth, no list or tuple long -/
inductive OkU : Nat → PyData → Prop
  | none {n : Nat} : OkU (n + 1) .none
  | bool {n : Nat} (b : Bool) : OkU (n + 1) (.bool b)
  | int {n : Nat} (i : Int) : OkU (n + 1) (.int i)
  | str {n : Nat} (s : Str) : OkU (n + 1) (.str s)
  | list {n : Nat} {ds : List PyData} (hl : ds.length ≤ 100000) (h : ∀ d ∈ ds, OkU n d) : OkU (n + 1) (.list ds)
  | tuple {n : Nat} {ds : List PyData} (hl : ds.length ≤ 100000) (h : ∀ d ∈ ds, OkU n d) : OkU (n + 1) (.tuple ds)
theorem OkU.up {n : Nat} {e : PyData} (h : OkU n e) : OkU (n + 1) e := by
  induction h with
  | none => exact .none
  | bool b => exact .bool b
  | int i => exact .int i
  | str s => exact .str s
  | list hl _ ih => exact .list hl ih
  | tuple hl _ ih => exact .tuple hl ih
end PM

/-! PT: rows of steps: roam, steps_changed; loops over indexes; _law_same as a rewrite. -/
namespace PM
open PySem L2 G
/-! rows with their numbers -/
/-! ties by their index -/
variable {ties : List T4I} {s : Int × Int}
theorem bk_bk (s : Int × Int) : bk (bk s) = s := by
  unfold bk
  obtain ⟨a, b⟩ := s
  simp only [Prod.mk.injEq, true_and]
  omega
/-! roam -/
/-! steps_changed -/
/-! steps -/
instance decIsStep {ties : List T4I} {s : Int × Int} : Decidable (IsStep ties s) := by unfold IsStep; infer_instance
theorem reversed_eq (steps : List (Int × Int)) : p_reversed_steps_m steps = .ok (steps.reverse.map bk) := by
  unfold p_reversed_steps_m
  exact M.comp_mapM bk fun x _ => rfl
/-! the law's equality, where the two are the same -/
/-! indexes from the end -/
/-! walks -/
def hd1 (ties : List T4I) (s : Int × Int) : Int := (tl ties (bk s)).1
def endW (ties : List T4I) : Int → List (Int × Int) → Int
  | p, [] => p
  | _, s :: ss => endW ties (hd1 ties s) ss
def IsWk (ties : List T4I) : Int → List (Int × Int) → Prop
  | _, [] => True
  | p, s :: ss => (IsStep ties s ∧ (tl ties s).1 = p) ∧ IsWk ties (hd1 ties s) ss
/-- the first step that is none, or that leaves another place -/
def scanW (ties : List T4I) : Nat → Int → List (Int × Int) → Option Nat
  | _, _, [] => none
  | i, p, s :: ss => if IsStep ties s ∧ (tl ties s).1 = p then scanW ties (i + 1) (hd1 ties s) ss else some i
theorem scanW_none {ties : List T4I} : ∀ {ss : List (Int × Int)} {i : Nat} {p : Int}, scanW ties i p ss = none ↔ IsWk ties p ss
  | [], _, _ => ⟨fun _ => trivial, fun _ => rfl⟩
  | s :: ss, i, p => by
    unfold scanW IsWk
    by_cases h : IsStep ties s ∧ (tl ties s).1 = p
    · rw [if_pos h, scanW_none]
      exact Iff.intro (fun z => ⟨h, z⟩) (fun z => z.2)
    · rw [if_neg h]
      constructor
      · intro z; cases z
      · intro z; exact (h z.1).elim
theorem IsWk.mem {ties : List T4I} : ∀ {ss : List (Int × Int)} {p : Int}, IsWk ties p ss → ∀ s ∈ ss, IsStep ties s
  | [], _, _, _, h => nomatch h
  | s :: ss, p, h, x, hx => by
    rcases List.mem_cons.mp hx with rfl | hx
    · exact h.1.1
    · exact h.2.mem x hx
theorem isWk_snoc {ties : List T4I} {s : Int × Int} : ∀ {ss : List (Int × Int)} {p : Int}, IsWk ties p (ss ++ [s]) ↔ IsWk ties p ss ∧ IsStep ties s ∧ (tl ties s).1 = endW ties p ss
  | [], p => by simp [IsWk, endW]
  | x :: ss, p => by
    simp only [List.cons_append, IsWk, endW]
    rw [isWk_snoc]
    exact ⟨fun ⟨a, b, c⟩ => ⟨⟨a, b⟩, c⟩, fun ⟨⟨a, b⟩, c⟩ => ⟨a, b, c⟩⟩
theorem endW_snoc {ties : List T4I} {s : Int × Int} : ∀ {ss : List (Int × Int)} {p : Int}, endW ties p (ss ++ [s]) = hd1 ties s
  | [], _ => rfl
  | x :: ss, _ => endW_snoc (ss := ss) (p := hd1 ties x)
/-- a walk backward -/
theorem IsWk.back {ties : List T4I} : ∀ {ss : List (Int × Int)} {p : Int}, IsWk ties p ss → IsWk ties (endW ties p ss) (ss.reverse.map bk) ∧ endW ties p ss :: (ss.reverse.map bk).map (hd1 ties) = (p :: ss.map (hd1 ties)).reverse ∧ endW ties (endW ties p ss) (ss.reverse.map bk) = p
  | [], p, _ => ⟨trivial, rfl, rfl⟩
  | s :: ss, p, h => by
    obtain ⟨h1, h2, h3⟩ := h.2.back
    have e0 : endW ties p (s :: ss) = endW ties (hd1 ties s) ss := rfl
    have e1 : (s :: ss).reverse.map bk = ss.reverse.map bk ++ [bk s] := by simp
    have e2 : hd1 ties (bk s) = p := by unfold hd1; rw [bk_bk]; exact h.1.2
    rw [e0, e1]
    refine ⟨isWk_snoc.mpr ⟨h1, h.1.1.bk, by rw [h3]; rfl⟩, ?_, by rw [endW_snoc, e2]⟩
    rw [List.map_append, ← List.cons_append, h2, List.map_cons, List.reverse_cons (a := p)]
    simp [e2]
end PM

/-! PC: rings, cycles, normal forms. -/
namespace PM
open PySem L2 G
theorem cutD {α : Type} (xs : List α) (k : Nat) : cutL xs (some (k : Int)) none = xs.drop k := by
  unfold cutL
  rw [HT.sIx_nat, HT.sIx_none]
  by_cases h : k ≤ xs.length
  · rw [Nat.min_eq_left h, List.take_of_length_le (by simp)]
  · rw [Nat.min_eq_right (by omega), List.drop_eq_nil_of_le (Nat.le_refl _), List.drop_eq_nil_of_le (by omega)]
    simp
theorem cutT {α : Type} (xs : List α) (k : Nat) : cutL xs none (some (k : Int)) = xs.take k := by
  unfold cutL
  rw [HT.sIx_nat, HT.sIx_none, List.drop_zero, Nat.sub_zero]
  by_cases h : k ≤ xs.length
  · rw [Nat.min_eq_left h]
  · rw [Nat.min_eq_right (by omega), List.take_of_length_le (Nat.le_refl _), List.take_of_length_le (by omega)]
/-! rings -/
/-! cycles -/
inductive OutC where
  | step (k : Nat)
  | again (k : Nat)
  | places (ps : List Int)
def rep (ties : List T4I) : Nat → List Int → List Int → List (Int × Int) → Option Nat
  | _, _, _, [] => none
  | i, ps, ts, s :: ss => if (tl ties s).1 ∈ ps ∨ s.1 ∈ ts then some i else rep ties (i + 1) (ps ++ [(tl ties s).1]) (ts ++ [s.1]) ss
/-- how the judging of a cycle ends -/
def outC (ties : List T4I) : List (Int × Int) → OutC
  | [] => .step 0
  | s0 :: ss => match scanW ties 0 (tl ties s0).1 (s0 :: ss) with
    | some k => .step k
    | none => if endW ties (tl ties s0).1 (s0 :: ss) = (tl ties s0).1 then (match rep ties 0 [] [] (s0 :: ss) with | some k => .again k | none => .places ((s0 :: ss).map fun s => (tl ties s).1)) else .step (s0 :: ss).length
theorem outC_cons (ties : List T4I) (s0 : Int × Int) (ss : List (Int × Int)) : outC ties (s0 :: ss) = match scanW ties 0 (tl ties s0).1 (s0 :: ss) with
    | some k => .step k
    | none => if endW ties (tl ties s0).1 (s0 :: ss) = (tl ties s0).1 then (match rep ties 0 [] [] (s0 :: ss) with | some k => .again k | none => .places ((s0 :: ss).map fun s => (tl ties s).1)) else .step (s0 :: ss).length := rfl
def OutC.px : OutC → PX
  | .step k => ⟨.BadStep, some [("step", .int (k : Int))]⟩
  | .again k => ⟨.Repeated, some [("step", .int (k : Int))]⟩
  | .places _ => ⟨.BadStep, none⟩
def OutC.run {α : Type} (f : List Int → α) : OutC → M α
  | .places ps => .ok (f ps)
  | o => .exc o.px
/-- steps that make a cycle -/
structure Cyc (ties : List T4I) (p : Int) (ss : List (Int × Int)) : Prop where
  ne : ss ≠ []
  wk : IsWk ties p ss
  en : endW ties p ss = p
  np : (ss.map fun s => (tl ties s).1).Nodup
  nt : (ss.map Prod.fst).Nodup
section
variable {sides : List Int} {ties : List T4I}
theorem rep_none : ∀ {ss : List (Int × Int)} {i : Nat} {ps ts : List Int}, ps.Nodup → ts.Nodup → (rep ties i ps ts ss = none ↔ (ps ++ ss.map fun s => (tl ties s).1).Nodup ∧ (ts ++ ss.map Prod.fst).Nodup)
  | [], i, ps, ts, h1, h2 => by simp [rep, h1, h2]
  | s :: ss, i, ps, ts, h1, h2 => by
    unfold rep
    by_cases h : (tl ties s).1 ∈ ps ∨ s.1 ∈ ts
    · rw [if_pos h]
      constructor
      · intro z; cases z
      · intro ⟨a, b⟩
        rw [List.nodup_append] at a b
        rcases h with h | h
        · exact absurd rfl (a.2.2 _ h _ (by simp))
        · exact absurd rfl (b.2.2 _ h _ (by simp))
    · rw [if_neg h]
      have n1 : (ps ++ [(tl ties s).1]).Nodup := List.nodup_append.mpr ⟨h1, by simp, fun a ha b hb e => by
        rw [List.mem_singleton] at hb
        subst e hb
        exact h (.inl ha)⟩
      have n2 : (ts ++ [s.1]).Nodup := List.nodup_append.mpr ⟨h2, by simp, fun a ha b hb e => by
        rw [List.mem_singleton] at hb
        subst e hb
        exact h (.inr ha)⟩
      rw [rep_none n1 n2]
      simp only [List.map_cons, List.append_assoc, List.singleton_append]
theorem Cyc.out {p : Int} {ss : List (Int × Int)} (c : Cyc ties p ss) : outC ties ss = .places (ss.map fun s => (tl ties s).1) := by
  cases ss with
  | nil => exact absurd rfl c.ne
  | cons s0 ss =>
    have hp : (tl ties s0).1 = p := c.wk.1.2
    rw [outC_cons, hp, scanW_none.mpr c.wk]
    simp only
    rw [if_pos c.en, (rep_none (ps := []) (ts := []) List.nodup_nil List.nodup_nil).mpr ⟨by simpa using c.np, by simpa using c.nt⟩]
theorem nodup_rev {α : Type} {xs : List α} : xs.reverse.Nodup ↔ xs.Nodup := (List.reverse_perm xs).nodup_iff
/-! indexes round a cycle, cusps -/
def stp (steps : List (Int × Int)) (k : Int) : Int × Int := steps.getD k.toNat (0, 0)
def pv (steps : List (Int × Int)) (k : Int) : Int × Int := if k = 0 then steps.getD (steps.length - 1) (0, 0) else stp steps (k - 1)
theorem heads_tails : ∀ {ss : List (Int × Int)} {p : Int}, IsWk ties p ss → p :: ss.map (hd1 ties) = (ss.map fun s => (tl ties s).1) ++ [endW ties p ss]
  | [], _, _ => rfl
  | s :: ss, p, h => by
    rw [List.map_cons, heads_tails h.2, List.map_cons, h.1.2]
    rfl
theorem Cyc.back {p : Int} {ss : List (Int × Int)} (c : Cyc ties p ss) : Cyc ties p (ss.reverse.map bk) := by
  obtain ⟨b1, b2, b3⟩ := c.wk.back
  rw [c.en] at b1 b3
  refine ⟨?_, b1, b3, ?_, ?_⟩
  · intro z
    rw [List.map_eq_nil_iff, List.reverse_eq_nil_iff] at z
    exact c.ne z
  · have e : ((ss.reverse.map bk).map fun s => (tl ties s).1) = (ss.map (hd1 ties)).reverse := by
      rw [List.map_map, ← List.map_reverse]
      rfl
    rw [e, nodup_rev]
    have h := heads_tails c.wk
    rw [c.en] at h
    have hp : (p :: ss.map (hd1 ties)).Perm (p :: ss.map fun s => (tl ties s).1) := by
      rw [h]
      exact List.perm_append_comm
    exact (hp.cons_inv).nodup_iff.mpr c.np
  · have e : ((ss.reverse.map bk).map Prod.fst) = (ss.map Prod.fst).reverse := by
      rw [List.map_map, ← List.map_reverse]
      rfl
    rw [e, nodup_rev]
    exact c.nt
/-! normal forms -/
/-- r is the normal form of the cycle's steps -/
def NF (steps r : List (Int × Int)) : Prop := ∃ low h t, (steps.map Prod.fst).Nodup ∧ (∀ s ∈ steps, low ≤ s.1) ∧ (steps = h ++ (low, 0) :: t ∨ ((low, (0 : Int)) ∉ steps ∧ steps.reverse.map bk = h ++ (low, 0) :: t)) ∧ r = (low, 0) :: (t ++ h)
theorem bk_rev (ss : List (Int × Int)) : (ss.reverse.map bk).reverse.map bk = ss := by
  rw [← List.map_reverse, List.reverse_reverse, List.map_map]
  refine (List.map_congr_left fun x _ => ?_).trans (List.map_id ss)
  exact bk_bk x
theorem fst_rev (ss : List (Int × Int)) : (ss.reverse.map bk).map Prod.fst = (ss.map Prod.fst).reverse := by
  rw [List.map_map, ← List.map_reverse]; rfl
theorem nd_fst {ss : List (Int × Int)} (h : (ss.map Prod.fst).Nodup) {a b : Int × Int} (ha : a ∈ ss) (hb : b ∈ ss) (e : a.1 = b.1) : a = b := by
  induction ss with
  | nil => nomatch ha
  | cons x ss ih =>
    rw [List.map_cons, List.nodup_cons] at h
    rcases List.mem_cons.mp ha with ha' | ha' <;> rcases List.mem_cons.mp hb with hb' | hb'
    · rw [ha', hb']
    · subst ha'
      exact absurd (List.mem_map.mpr ⟨b, hb', e.symm⟩) h.1
    · subst hb'
      exact absurd (List.mem_map.mpr ⟨a, ha', e⟩) h.1
    · exact ih h.2 ha' hb'
theorem NF.back {ss r : List (Int × Int)} (n : NF ss r) : NF (ss.reverse.map bk) r := by
  obtain ⟨low, h, t, n1, n2, n3, rfl⟩ := n
  have hn : ((ss.reverse.map bk).map Prod.fst).Nodup := by rw [fst_rev, nodup_rev]; exact n1
  have hm : ∀ s ∈ ss.reverse.map bk, low ≤ s.1 := fun s hs => by
    obtain ⟨x, hx, rfl⟩ := List.mem_map.mp hs
    exact n2 x (List.mem_reverse.mp hx)
  rcases n3 with e | ⟨e0, e⟩
  · refine ⟨low, h, t, hn, hm, .inr ⟨fun z => ?_, by rw [bk_rev]; exact e⟩, rfl⟩
    obtain ⟨x, hx, ex⟩ := List.mem_map.mp z
    have hx' := List.mem_reverse.mp hx
    have h0 : (low, (0 : Int)) ∈ ss := by rw [e]; simp
    have e1 : x.1 = low := congrArg Prod.fst ex
    have e2 : (1 : Int) - x.2 = 0 := congrArg Prod.snd ex
    have := nd_fst n1 hx' h0 e1
    rw [this] at e2
    simp at e2
  · exact ⟨low, h, t, hn, hm, .inl e, rfl⟩
theorem NF.ex {ss : List (Int × Int)} (h0 : ss ≠ []) (h1 : ∀ s ∈ ss, s.2 = 0 ∨ s.2 = 1) (h2 : (ss.map Prod.fst).Nodup) : ∃ r, NF ss r := by
  obtain ⟨m1, m2⟩ := minL_spec (xs := ss.map Prod.fst) (by rw [List.length_map]; exact List.length_pos_iff.mpr h0)
  generalize minL (ss.map Prod.fst) = low at m1 m2
  have hl : ∀ s ∈ ss, low ≤ s.1 := fun s hs => m2 _ (List.mem_map.mpr ⟨s, hs, rfl⟩)
  by_cases hm : (low, (0 : Int)) ∈ ss
  · obtain ⟨h, t, e⟩ := List.append_of_mem hm
    exact ⟨_, low, h, t, h2, hl, .inl e, rfl⟩
  · obtain ⟨s, hs, es⟩ := List.mem_map.mp m1
    have hs2 : s.2 = 1 := by
      rcases h1 s hs with z | z
      · exact absurd (show (low, (0 : Int)) ∈ ss by rw [← es, ← z]; exact hs) hm
      · exact z
    have hb : (low, (0 : Int)) ∈ ss.reverse.map bk := List.mem_map.mpr ⟨s, List.mem_reverse.mpr hs, by unfold bk; rw [es, hs2]; rfl⟩
    obtain ⟨h, t, e⟩ := List.append_of_mem hb
    exact ⟨_, low, h, t, h2, hl, .inr ⟨hm, e⟩, rfl⟩
theorem idx_at {row h t : List (Int × Int)} {x : Int × Int} (e : row = h ++ x :: t) (hn : (row.map Prod.fst).Nodup) : M.idx row x = .ok (h.length : Int) := by
  have hno : ∀ y ∈ h, y ≠ x := fun y hy z => by
    subst z
    rw [e, List.map_append, List.nodup_append] at hn
    exact hn.2.2 _ (List.mem_map.mpr ⟨y, hy, rfl⟩) _ (List.mem_map.mpr ⟨y, List.mem_cons_self, rfl⟩) rfl
  have : row.findIdx? (fun z => decide (z = x)) = some h.length := by
    rw [List.findIdx?_eq_some_iff_getElem]
    refine ⟨by rw [e]; simp, by simp [e], fun j hj => ?_⟩
    simp only [e, List.getElem_append_left hj, decide_eq_true_eq]
    exact hno _ (List.getElem_mem hj)
  unfold M.idx
  rw [this]
  rfl
theorem cat_small {α : Type} {xs ys : List α} (h : xs.length + ys.length ≤ 100000) : M.cat xs ys = .ok (xs ++ ys) := M.asrt_pos (Nat.le_trans h (by decide))
theorem NF.eval {ss r : List (Int × Int)} (n : NF ss r) (hl : ss.length ≤ 1000) : p_normal_cycle_m ss = .ok r := by
  obtain ⟨low, h, t, n1, n2, n3, rfl⟩ := n
  have hmem : ∃ s ∈ ss, s.1 = low := by
    rcases n3 with e | ⟨_, e⟩
    · exact ⟨(low, 0), by rw [e]; simp, rfl⟩
    · have : (low, (0 : Int)) ∈ ss.reverse.map bk := by rw [e]; simp
      obtain ⟨x, hx, ex⟩ := List.mem_map.mp this
      exact ⟨x, List.mem_reverse.mp hx, congrArg Prod.fst ex⟩
  obtain ⟨s, hs, es⟩ := hmem
  have hpos : 0 < (ss.map Prod.fst).length := by rw [List.length_map]; exact List.length_pos_iff.mpr (List.ne_nil_of_mem hs)
  obtain ⟨m1, m2⟩ := minL_spec hpos
  have hlow : minL (ss.map Prod.fst) = low := by
    obtain ⟨y, hy, ey⟩ := List.mem_map.mp m1
    have a := n2 y hy
    have b := m2 _ (List.mem_map.mpr ⟨s, hs, es⟩)
    omega
  unfold p_normal_cycle_m
  rw [show M.comp (fun _ => (M.ok true)) (fun x1 : Int × Int => (M.ok x1.1)) ss = .ok (ss.map Prod.fst) from M.comp_map _ _]
  simp only [M.ok_bind]
  unfold M.minM
  rw [M.asrt_pos hpos]
  simp only [M.ok_bind]
  rw [hlow]
  have fin : ∀ row : List (Int × Int), row = h ++ (low, 0) :: t → (row.map Prod.fst).Nodup → row.length ≤ 1000 → (M.idx row (low, (0 : Int)) >>= fun first_7 => M.cat (cutL row (some first_7) none) (cutL row none (some first_7))) = .ok ((low, 0) :: (t ++ h)) := fun row e hn hr => by
    rw [idx_at e hn]
    simp only [M.ok_bind]
    rw [cutD, cutT, cat_small (by rw [List.length_drop, List.length_take]; omega), e]
    simp
  rcases n3 with e | ⟨e0, e⟩
  · rw [show memB (low, (0 : Int)) ss = true from memB_iff.mpr (by rw [e]; simp)]
    simp only [Bool.not_true, if_neg Bool.false_ne_true, M.ok_bind]
    exact fin ss e n1 hl
  · rw [show memB (low, (0 : Int)) ss = false by rw [← Bool.not_eq_true]; exact fun z => e0 (memB_iff.mp z)]
    simp only [Bool.not_false, if_true]
    rw [reversed_eq]
    simp only [M.ok_bind]
    exact fin _ e (by rw [fst_rev, nodup_rev]; exact n1) (by simp; omega)
theorem NF.len {ss r : List (Int × Int)} (n : NF ss r) : r.length = ss.length := by
  obtain ⟨low, h, t, n1, n2, n3, rfl⟩ := n
  rcases n3 with e | ⟨e0, e⟩
  · rw [e]; simp; omega
  · have : ss.length = (ss.reverse.map bk).length := by simp
    rw [this, e]; simp; omega
end
end PM

/-! GN: groups by labels, in plain Lean. -/
namespace G
section
variable {pts : List Int} {ties : List (Int × Int)}
def Cor (pts : List Int) (ts : List (Int × Int)) (kv : List (Int × Int)) (x : Int) : Prop := ∃ y, kv.lookup x = some y ∧ IsMin pts ts y
noncomputable instance decCor {pts : List Int} {ts : List (Int × Int)} {kv : List (Int × Int)} {x : Int} : Decidable (Cor pts ts kv x) := Classical.propDecidable _
end
end G

/-! PH: joints, groups by labels, touched sides, hinges: what the laws and the program compute of them. -/
namespace PM
open PySem L2 G
/-! groups by labels -/
/-! touched sides -/
def tStep (group : List Int) (place : Int) (s : IS) (x : T4I) : IS :=
  let s1 := if x.a = place ∧ x.c ∈ group then isAdd s x.b else s
  if x.c = place ∧ x.a ∈ group then isAdd s1 x.d else s1
/-- sides of at most four -/
def Sided (ties : List T4I) : Prop := ∀ x ∈ ties, (0 ≤ x.b ∧ x.b < 4) ∧ (0 ≤ x.d ∧ x.d < 4)
theorem isAdd_nd {s : IS} {x : Int} (h : s.l.Nodup) : (isAdd s x).l.Nodup := by
  unfold isAdd
  split
  · exact h
  · next hx => exact nodup_snoc h hx
theorem isAdd_mem {s : IS} {x y : Int} : y ∈ (isAdd s x).l ↔ y ∈ s.l ∨ y = x := by
  unfold isAdd
  split
  · next hx =>
    constructor
    · exact .inl
    · rintro (h | rfl)
      · exact h
      · exact hx
  · simp
structure Few (s : IS) : Prop where
  nd : s.l.Nodup
  rg : ∀ y ∈ s.l, 0 ≤ y ∧ y < 4
theorem Few.add {s : IS} {x : Int} (h : Few s) (h0 : 0 ≤ x ∧ x < 4) : Few (isAdd s x) := ⟨isAdd_nd h.nd, fun y hy => (isAdd_mem.mp hy).elim (h.rg y) fun e => by rw [e]; exact h0⟩
theorem Few.len {s : IS} (h : Few s) : s.l.length ≤ 4 := by
  have := len_le (pts := rngL 0 4) h.nd fun y hy => mem_rngL.mpr (by have := h.rg y hy; omega)
  rw [rngL_len] at this
  exact this
theorem Few.step {s : IS} {group : List Int} {place : Int} {x : T4I} (h : Few s) (hx : (0 ≤ x.b ∧ x.b < 4) ∧ (0 ≤ x.d ∧ x.d < 4)) : Few (tStep group place s x) := by
  unfold tStep
  by_cases h1 : x.a = place ∧ x.c ∈ group
  · rw [if_pos h1]
    simp only
    split
    · exact (h.add hx.1).add hx.2
    · exact h.add hx.1
  · rw [if_neg h1]
    simp only
    split
    · exact h.add hx.2
    · exact h
theorem few_nil : Few ⟨[]⟩ := ⟨List.nodup_nil, fun y hy => nomatch hy⟩
theorem sortS_ok {s : IS} (h : Few s) : M.sortS s = .ok (isort s.l) := by
  unfold M.sortS
  have := h.len
  exact M.asrt_pos ⟨by omega, h.nd⟩
theorem foldl_ok {α σ : Type} {f : σ → α → M σ} {g : σ → α → σ} (I : σ → Prop) : ∀ (xs : List α) (s : σ), I s → (∀ x ∈ xs, ∀ s, I s → f s x = .ok (g s x) ∧ I (g s x)) → M.fold f s xs = .ok (xs.foldl g s)
  | [], s, _, _ => rfl
  | x :: xs, s, h, hs => by
    simp only [M.fold, List.foldl_cons]
    rw [(hs x List.mem_cons_self s h).1]
    exact foldl_ok I xs _ (hs x List.mem_cons_self s h).2 fun y hy => hs y (List.mem_cons_of_mem _ hy)
/-! hinges -/
/-! joints -/
def memU (ties : List T4I) (p v : Int) : Prop := ∃ x ∈ ties, (x.a = p ∧ x.b = v) ∨ (x.c = p ∧ x.d = v)
def IsJoint (ties : List T4I) (p : Int) : Prop := ∃ v w, v ≠ w ∧ memU ties p v ∧ memU ties p w
noncomputable instance decJoint {ties : List T4I} {p : Int} : Decidable (IsJoint ties p) := Classical.propDecidable _
noncomputable def jointsOf (n : Nat) (ties : List T4I) : List Int := (rngL 0 n).filter fun p => decide (IsJoint ties p)
theorem jointsOf_len (n : Nat) (ties : List T4I) : (jointsOf n ties).length ≤ n := by
  have := List.length_filter_le (fun p => decide (IsJoint ties p)) (rngL 0 n)
  rw [rngL_len] at this
  exact this
/-- two that differ, in a list -/
theorem two_iff {xs : List Int} (hn : xs.Nodup) : 1 < xs.length ↔ ∃ v w, v ≠ w ∧ v ∈ xs ∧ w ∈ xs := by
  constructor
  · intro h
    match xs, hn, h with
    | v :: w :: r, hn, _ =>
      have := List.nodup_cons.mp hn
      exact ⟨v, w, fun e => this.1 (by rw [e]; exact List.mem_cons_self), List.mem_cons_self, List.mem_cons_of_mem _ List.mem_cons_self⟩
  · rintro ⟨v, w, hne, hv, hw⟩
    match xs, hv, hw with
    | [y], hv, hw =>
      rw [List.mem_singleton] at hv hw
      exact absurd (hv.trans hw.symm) hne
    | _ :: _ :: _, _, _ => simp
theorem setOf_mem {xs : List Int} {y : Int} : y ∈ (setOf xs).l ↔ y ∈ xs := by
  have : ∀ (l : List Int) (s : IS), y ∈ (l.foldl isAdd s).l ↔ y ∈ s.l ∨ y ∈ l := by
    intro l
    induction l with
    | nil => intro s; simp
    | cons x l ih =>
      intro s
      rw [List.foldl_cons, ih, isAdd_mem, List.mem_cons, or_assoc]
  have h := this xs ⟨[]⟩
  unfold setOf
  rw [h]
  simp
theorem setOf_few {xs : List Int} (h : ∀ y ∈ xs, 0 ≤ y ∧ y < 4) : Few (setOf xs) := by
  have : ∀ (l : List Int) (s : IS), (∀ y ∈ l, 0 ≤ y ∧ y < 4) → Few s → Few (l.foldl isAdd s) := by
    intro l
    induction l with
    | nil => intro s _ h; exact h
    | cons x l ih => intro s hl hs; exact ih _ (fun y hy => hl y (List.mem_cons_of_mem _ hy)) (hs.add (hl x List.mem_cons_self))
  exact this xs _ h few_nil
theorem Good.sided {sides : List Int} {ties : List T4I} (g : Good sides ties) : Sided ties := fun x hx => by
  obtain ⟨a, b, c, d, e, f, h, i⟩ := g.ti x hx
  have m1 := g.sd _ (getD_mem (xs := sides) a b)
  have m2 := g.sd _ (getD_mem (xs := sides) e f)
  omega
theorem memU_range {ties : List T4I} (hs : Sided ties) {p v : Int} (h : memU ties p v) : 0 ≤ v ∧ v < 4 := by
  obtain ⟨x, hx, ⟨_, rfl⟩ | ⟨_, rfl⟩⟩ := h
  · exact (hs x hx).1
  · exact (hs x hx).2
def usP (ties : List T4I) (p : Int) : List Int := ((allSteps ties.length).filter fun s => decide ((tl ties s).1 = p)).map fun s => (tl ties s).2
theorem usP_mem {ties : List T4I} {p v : Int} : v ∈ usP ties p ↔ memU ties p v := by
  unfold usP memU
  rw [List.mem_map]
  constructor
  · rintro ⟨s, hs, rfl⟩
    obtain ⟨h1, h2⟩ := List.mem_filter.mp hs
    obtain ⟨k0, k1, k2⟩ := mem_allSteps.mp h1
    have hlt : s.1.toNat < ties.length := by omega
    have e : ties.getD s.1.toNat ⟨0, 0, 0, 0⟩ = ties[s.1.toNat] := by rw [List.getD_eq_getElem?_getD, List.getElem?_eq_getElem hlt]; rfl
    refine ⟨ties[s.1.toNat], List.getElem_mem hlt, ?_⟩
    have h2' : (tl ties s).1 = p := by simpa using h2
    unfold tl at h2' ⊢
    simp only [e] at h2' ⊢
    by_cases hz : s.2 = 0
    · rw [if_pos hz] at h2' ⊢; exact .inl ⟨h2', rfl⟩
    · rw [if_neg hz] at h2' ⊢; exact .inr ⟨h2', rfl⟩
  · rintro ⟨x, hx, h⟩
    obtain ⟨i, hi, e⟩ := List.mem_iff_getElem.mp hx
    have e2 : ∀ d : Int, tl ties ((i : Int), d) = if d = 0 then (x.a, x.b) else (x.c, x.d) := fun d => by
      unfold tl
      simp only [Int.toNat_natCast]
      rw [List.getD_eq_getElem?_getD, List.getElem?_eq_getElem hi, e]
      rfl
    rcases h with ⟨h1, rfl⟩ | ⟨h1, rfl⟩
    · refine ⟨((i : Int), 0), List.mem_filter.mpr ⟨mem_allSteps.mpr ⟨by simp, by simpa using hi, .inl rfl⟩, ?_⟩, ?_⟩
      · rw [e2, if_pos rfl]; simpa using h1
      · rw [e2, if_pos rfl]
    · refine ⟨((i : Int), 1), List.mem_filter.mpr ⟨mem_allSteps.mpr ⟨by simp, by simpa using hi, .inr rfl⟩, ?_⟩, ?_⟩
      · rw [e2, if_neg (by decide)]; simpa using h1
      · rw [e2, if_neg (by decide)]
theorem used_eq {sides : List Int} {ties : List T4I} (hs : Sided ties) (ht : ties.length ≤ 400) {p : Int} (h0 : 0 ≤ p) (h1 : p < sides.length) : m_Web_used_sides_m ⟨⟨sides⟩, ⟨ties⟩⟩ p = .ok (isort (setOf (usP ties p)).l) := by
  unfold m_Web_used_sides_m
  rw [steps_from_eq (w := ⟨⟨sides⟩, ⟨ties⟩⟩) h0 h1 (by show ties.length ≤ _; omega)]
  simp only [M.ok_bind]
  have hl : ((allSteps ties.length).filter fun s => decide ((tl ties s).1 = p)).length ≤ 1000 := by
    have := List.length_filter_le (fun s => decide ((tl ties s).1 = p)) (allSteps ties.length)
    rw [allSteps_len] at this
    omega
  unfold M.scomp
  rw [M.asrt_pos hl, M.comp_mapM (fun s => (tl ties s).2) fun s hs2 => ?_]
  · simp only [M.ok_bind]
    exact sortS_ok (setOf_few fun y hy => memU_range hs (usP_mem.mp hy))
  · have hm := mem_allSteps.mp (List.mem_filter.mp hs2).1
    rw [tail_eq (w := ⟨⟨sides⟩, ⟨ties⟩⟩) hm.1 hm.2.1]
    rfl
theorem joint_used {ties : List T4I} (hs : Sided ties) {p : Int} : 1 < ((isort (setOf (usP ties p)).l).length : Int) ↔ IsJoint ties p := by
  have hf : Few (setOf (usP ties p)) := setOf_few fun y hy => memU_range hs (usP_mem.mp hy)
  rw [(isort_perm _).length_eq]
  have := two_iff hf.nd
  constructor
  · intro h
    obtain ⟨v, w, hne, hv, hw⟩ := this.mp (by omega)
    exact ⟨v, w, hne, usP_mem.mp (setOf_mem.mp hv), usP_mem.mp (setOf_mem.mp hw)⟩
  · rintro ⟨v, w, hne, hv, hw⟩
    have := this.mpr ⟨v, w, hne, setOf_mem.mpr (usP_mem.mpr hv), setOf_mem.mpr (usP_mem.mpr hw)⟩
    omega
theorem joints_eq {sides : List Int} {ties : List T4I} (hs : Sided ties) (ht : ties.length ≤ 400) (hl : sides.length ≤ 1000) : m_Web_joints_m ⟨⟨sides⟩, ⟨ties⟩⟩ = .ok ⟨jointsOf sides.length ties⟩ := by
  unfold m_Web_joints_m
  rw [show M.range ((sides.length : Int)) = .ok (rngL 0 sides.length) from M.rangeN (by omega)]
  simp only [M.ok_bind]
  rw [M.comp_filter (fun p => decide (IsJoint ties p)) fun p hp => ?_]
  · rfl
  · have hr := mem_rngL.mp hp
    rw [used_eq hs ht hr.1 (by omega)]
    simp only [M.ok_bind]
    congr 1
    exact decide_eq_decide.mpr (joint_used hs)
/-! makers -/
end PM

namespace K00
open PySem L2 G PM
/-- the exceptions that may come up -/
def kn : XC → Bool := fun c => decide (c ∈ ([.BadSides, .TooLarge, .UnknownPlace, .UnknownSide, .UnknownTie] : List XC))
/-- _law_counts -/
noncomputable def l_counts_m (sides : (List Int)) (ties : (List (T4 Int Int Int Int))) : M (List (List Int)) :=
  (M.ok ([] : (List (List Int)))) >>= fun counts_here_1 =>
  (M.ok sides) >>= fun l17 =>
  M.fold (fun (s2 : (List (List Int))) x3 =>
    M.push s2 ((M.range x3) >>= M.comp (fun _ => (M.ok true)) (fun x4 => (M.ok (0 : Int)))) >>= fun counts_here_5 =>
      M.ok counts_here_5) counts_here_1 l17 >>= fun (s6 : (List (List Int))) =>
  (M.ok ties) >>= fun l16 =>
  M.fold (fun (s7 : (List (List Int))) x8 =>
    M.setIxx s7 (M.ok x8.a) (M.ok x8.b) (((M.ix s7 x8.a) >>= fun t9 => (M.ix t9 x8.b)) >>= fun t10 => (M.ok (t10 + (1 : Int)))) >>= fun counts_here_11 =>
      M.setIxx counts_here_11 (M.ok x8.c) (M.ok x8.d) (((M.ix counts_here_11 x8.c) >>= fun t12 => (M.ix t12 x8.d)) >>= fun t13 => (M.ok (t13 + (1 : Int)))) >>= fun counts_here_14 =>
      M.ok counts_here_14) s6 l16 >>= fun (s15 : (List (List Int))) =>
  M.ok s15
/-- end_counts -/
noncomputable def p_end_counts_m (web : WebM) : M (List (List Int)) :=
  (M.comp (fun _ => (M.ok true)) (fun x1 => (M.rep [(0 : Int)] x1)) web.a.l) >>= fun counts_2 =>
  (M.ok web.b.l) >>= fun l8 =>
  M.fold (fun (s3 : (List (List Int))) x4 =>
    M.augIxx (fun i j => i + j) s3 (M.ok x4.a) (M.ok x4.b) (M.ok (1 : Int)) >>= fun counts_5 =>
      M.augIxx (fun i j => i + j) counts_5 (M.ok x4.c) (M.ok x4.d) (M.ok (1 : Int)) >>= fun counts_6 =>
      M.ok counts_6) counts_2 l8 >>= fun (s7 : (List (List Int))) =>
  M.ok s7
/-- _law_numbers -/
noncomputable def l_numbers_m (told : (List Int)) (due : (List Int)) : M Bool :=
  if ((!true) || (!decide ((told.length : Int) = (due.length : Int)))) then
  (M.ok false)
else
  (M.range (due.length : Int)) >>= fun l11 =>
    M.foldC (fun (_ : Unit) x2 =>
      ((((M.ix told x2) >>= fun t3 => (l_is_number_m t3)) >>= fun t4 => (M.ok (!t4))) >>= fun b7 => (if b7 then .ok true else ((M.ix told x2) >>= fun t5 => ((M.ix due x2) >>= fun t6 => (M.ok (!decide (t5 = t6))))))) >>= fun b8 => if b8 then
        (M.ok false) >>= fun r => .ok (.rt r)
      else
        M.ok (.nx ())) () l11 >>= fun c10 => Ct.go c10 M.ok fun (_ : Unit) =>
    (M.ok true)
/-- side_table -/
noncomputable def p_side_table_m (web : WebM) : M (List PySem.Str) :=
  (M.ok ([] : (List PySem.Str))) >>= fun rows_1 =>
  ((p_end_counts_m web) >>= fun t3 => (M.ok (M.enumL t3))) >>= fun l15 =>
  M.fold (fun (s2 : (List PySem.Str)) x4 =>
    ((M.cat [x4.1] x4.2) >>= M.comp (fun _ => (M.ok true)) (fun x5 => (M.fmtI ">4" x5))) >>= fun columns_6 =>
      ((((M.comp (fun x7 => (M.ok (decide ((0 : Int) < x7)))) (fun x7 => (M.ok x7)) x4.2) >>= fun t8 => (M.ok (t8.length : Int))) >>= fun t9 => (M.ok (decide ((1 : Int) < t9)))) >>= fun b13 => if b13 then
      M.push columns_6 (M.ok (" joint" : PySem.Str)) >>= fun columns_10 =>
        M.ok columns_10
    else
      M.ok columns_6) >>= (fun s11 : (List PySem.Str) =>
      M.push s2 (M.join ("" : PySem.Str) s11) >>= fun rows_12 =>
      M.ok rows_12)) rows_1 l15 >>= fun (s14 : (List PySem.Str)) =>
  M.ok s14
/-- _law_row -/
noncomputable def l_row_m (place : Int) (counts_here : (List Int)) : M PySem.Str :=
  (M.ok ("" : PySem.Str)) >>= fun row_here_1 =>
  (M.cat [place] counts_here) >>= fun l18 =>
  M.fold (fun (s2 : PySem.Str) x3 =>
    ((((((M.strI x3) >>= fun t4 => (M.lenS t4)) >>= fun t5 => (M.ok ((4 : Int) - t5))) >>= fun t6 => (M.repS (" " : PySem.Str) t6)) >>= fun t7 => (M.catS s2 t7)) >>= fun t8 => ((M.strI x3) >>= fun t9 => (M.catS t8 t9))) >>= fun row_here_10 =>
      M.ok row_here_10) row_here_1 l18 >>= fun (s11 : PySem.Str) =>
  ((((M.comp (fun x12 => (M.ok (decide ((0 : Int) < x12)))) (fun x12 => (M.ok x12)) counts_here) >>= fun t13 => (M.ok (t13.length : Int))) >>= fun t14 => (M.ok (decide ((1 : Int) < t14)))) >>= fun b17 => if b17 then
  (M.catS s11 (" joint" : PySem.Str)) >>= fun row_here_15 =>
    M.ok row_here_15
else
  M.ok s11) >>= (fun s16 : PySem.Str =>
  (M.ok s16))
/-- _law_refused -/
noncomputable def l_refused_m (web_here : WebM) (number : Int) : M Bool :=
  M.tryK kn (fun c => XC.isA c .ComesapartError) ((m_Web_used_sides_m web_here number) >>= fun _ =>
  (M.ok false))
  fun px1 => (if (XC.isA px1.cls .UnknownPlace) then (if true then ((px1.fld .UnknownPlace "place") >>= fun t2 => (M.ok (decide (t2 = number)))) else .ok false) else .ok false)
/-- _law_right_sides -/
noncomputable def l_right_sides_m (web_here : WebM) (counts_here : (List (List Int))) : M Bool :=
  (M.ok ([] : (List Int))) >>= fun joints_1 =>
  (M.range (counts_here.length : Int)) >>= fun l33 =>
  M.foldC (fun (s2 : (List Int)) x3 =>
    ((((M.ix counts_here x3) >>= fun t4 => (M.ok (t4.length : Int))) >>= fun t5 => (M.range t5)) >>= M.comp (fun x6 => (((M.ix counts_here x3) >>= fun t7 => (M.ix t7 x6)) >>= fun t8 => (M.ok (decide ((0 : Int) < t8))))) (fun x6 => (M.ok x6))) >>= fun used_9 =>
      (m_Web_used_sides_m web_here x3) >>= fun told_10 =>
      ((M.calm (l_numbers_m told_10 used_9)) >>= fun t11 => (M.ok (!t11))) >>= fun b14 => if b14 then
      (M.ok false) >>= fun r => .ok (.rt r)
    else
      M.push told_10 (M.ok (9 : Int)) >>= fun told_12 =>
        if (decide ((1 : Int) < (used_9.length : Int))) then
        M.push s2 (M.ok x3) >>= fun joints_13 =>
          M.ok (.nx joints_13)
      else
        M.ok (.nx s2)) joints_1 l33 >>= fun c32 => Ct.go c32 M.ok fun (s15 : (List Int)) =>
  (M.ok [(-(1 : Int)), (counts_here.length : Int), ((counts_here.length : Int) + (5 : Int))]) >>= fun l31 =>
  M.foldC (fun (_ : Unit) x17 =>
    ((l_refused_m web_here x17) >>= fun t18 => (M.ok (!t18))) >>= fun b19 => if b19 then
      (M.ok false) >>= fun r => .ok (.rt r)
    else
      M.ok (.nx ())) () l31 >>= fun c30 => Ct.go c30 M.ok fun (_ : Unit) =>
  (((M.calm (m_Web_joints_m web_here)) >>= fun t25 => (M.ok true)) >>= fun b29 => (if b29 then (((M.calm (m_Web_joints_m web_here)) >>= fun t27 => (M.ok t27.l)) >>= fun t28 => (l_numbers_m t28 s15)) else .ok false))
/-- _law_right -/
noncomputable def l_right_m (web_here : WebM) (sides : (List Int)) (ties : (List (T4 Int Int Int Int))) : M Bool :=
  (l_counts_m sides ties) >>= fun counts_here_1 =>
  (p_end_counts_m web_here) >>= fun told_2 =>
  if ((!true) || (!decide ((told_2.length : Int) = (counts_here_1.length : Int)))) then
  (M.ok false)
else
  (M.range (counts_here_1.length : Int)) >>= fun l29 =>
    M.foldC (fun (_ : Unit) x4 =>
      ((M.calm ((M.ix told_2 x4) >>= fun t5 => ((M.ix counts_here_1 x4) >>= fun t6 => (l_numbers_m t5 t6)))) >>= fun t7 => (M.ok (!t7))) >>= fun b8 => if b8 then
        (M.ok false) >>= fun r => .ok (.rt r)
      else
        M.ok (.nx ())) () l29 >>= fun c28 => Ct.go c28 M.ok fun (_ : Unit) =>
    (p_side_table_m web_here) >>= fun rows_10 =>
    if ((!true) || (!decide ((rows_10.length : Int) = (counts_here_1.length : Int)))) then
    (M.ok false)
  else
    (M.range (counts_here_1.length : Int)) >>= fun l27 =>
      M.foldC (fun (s11 : (List (List Int))) x12 =>
        ((((M.ix rows_10 x12) >>= fun t13 => (M.ok true)) >>= fun t14 => (M.ok (!t14))) >>= fun b18 => (if b18 then .ok true else ((M.ix rows_10 x12) >>= fun t16 => (((M.ix counts_here_1 x12) >>= fun t15 => (l_row_m x12 t15)) >>= fun t17 => (M.ok (!decide (t16 = t17))))))) >>= fun b20 => if b20 then
          (M.ok false) >>= fun r => .ok (.rt r)
        else
          M.appIx s11 (M.ok x12) (M.ok x12) >>= fun told_19 =>
            M.ok (.nx told_19)) told_2 l27 >>= fun c26 => Ct.go c26 M.ok fun (s21 : (List (List Int))) =>
      M.push s21 (M.ok ([] : (List Int))) >>= fun told_22 =>
      M.push rows_10 (M.ok ("" : PySem.Str)) >>= fun rows_23 =>
      ((l_right_sides_m web_here counts_here_1) >>= fun t24 => (M.ok (!t24))) >>= fun b25 => if b25 then
      (M.ok false)
    else
      (M.ok ((decide (web_here.a.l = sides)) && (decide (web_here.b.l = ties))))
/-- law -/
noncomputable def law_m (script : (Sq Int)) : M Bool :=
  (((l_cell_m script (0 : Int)) >>= fun t2 => (l_draws_m t2 (60 : Int))) >>= fun t3 => (l_web_m t3 (7 : Int) (12 : Int))) >>= fun t4 =>
  (((l_cell_m script (1 : Int)) >>= fun t6 => (l_draws_m t6 (60 : Int))) >>= fun t7 => (l_web_m t7 (7 : Int) (12 : Int))) >>= fun t8 =>
  ((l_cell_m script (2 : Int)) >>= fun t9 => (l_draws_m t9 (3 : Int))) >>= fun extra_10 =>
  (((l_pick_m extra_10 (0 : Int) (10 : Int)) >>= fun t11 => (M.ok (decide (t11 = (3 : Int))))) >>= fun b29 => if b29 then
  (M.rep t4.2 (25 : Int)) >>= fun ties_12 =>
    M.ok ties_12
else
  M.ok t4.2) >>= (fun s13 : (List (T4 Int Int Int Int)) =>
  (((l_pick_m extra_10 (0 : Int) (10 : Int)) >>= fun t14 => (M.ok (decide (t14 = (4 : Int))))) >>= fun b28 => if b28 then
  ((((((l_pick_m extra_10 (1 : Int) (60 : Int)) >>= fun t15 => (M.ok ((93 : Int) + t15))) >>= fun t16 => ((l_pick_m extra_10 (2 : Int) (41 : Int)) >>= fun t17 => (M.ok (t16 + t17)))) >>= fun t18 => (M.range t18)) >>= M.comp (fun _ => (M.ok true)) (fun x19 => (M.ok (2 : Int)))) >>= fun t20 => (M.cat t4.1 t20)) >>= fun sides_21 =>
    M.ok sides_21
else
  M.ok t4.1) >>= (fun s22 : (List Int) =>
  (m_WebX_initX_m s22 s13) >>= fun first_23 =>
  (m_WebX_initX_m t8.1 t8.2) >>= fun second_24 =>
  ((l_right_m first_23 s22 s13) >>= fun t25 => (M.ok (!t25))) >>= fun b27 => if b27 then
  (M.ok false)
else
  ((l_right_m second_24 t8.1 t8.2) >>= fun b26 => (if b26 then (l_right_m first_23 s22 s13) else .ok false))))
end K00

namespace K00
open PySem L2 G PM
/-! ### texts, as lists of code points -/
def cl (s : Str) : List Nat := s.cps.toList
theorem cl_inj {a b : Str} (h : cl a = cl b) : a = b := by
  cases a; cases b
  congr 1
  exact Array.toList_inj.mp h
theorem cl_app (a b : Str) : cl (a ++ b) = cl a ++ cl b := by
  show (a.cps ++ b.cps).toList = _
  rw [Array.toList_append]
  rfl
theorem cl_len (a : Str) : a.length = (cl a).length := by
  show a.cps.size = a.cps.toList.length
  simp
theorem cl_of (s : String) : cl (Str.ofString s) = s.toList.map Char.toNat := by
  rw [Str.ofString_eq_toList]
  rfl
theorem cl_empty : cl ("" : Str) = [] := by rw [show (("" : Str)) = Str.ofString "" from rfl, cl_of]; rfl
theorem cl_join : ∀ parts : List Str, cl (Txt.join ("" : Str) parts) = (parts.map cl).flatten := by
  intro parts
  show cl (Builtin.Str.glued _ parts) = _
  rw [StrLaws.glued_eq_join]
  induction parts with
  | nil => rfl
  | cons x r ih =>
    cases r with
    | nil => simp [Str.join]
    | cons y r =>
      show cl (x ++ ("" : Str) ++ Str.join ("" : Str) (y :: r)) = _
      rw [cl_app, cl_app, cl_empty, ih]
      simp
/-- the digits -/
def dg (x : Int) : List Nat := (Nat.toDigits 10 x.natAbs).map Char.toNat
def T (x : Int) : Str := Str.ofString (toString x)
theorem cl_T {x : Int} (h : 0 ≤ x) : cl (T x) = dg x := by
  unfold T dg
  rw [cl_of]
  obtain ⟨n, rfl⟩ := Int.eq_ofNat_of_zero_le h
  have : (toString (n : Int)).toList = Nat.toDigits 10 n := by
    show (Nat.repr n).toList = _
    exact Nat.toList_repr
  rw [this]
  rfl
theorem dg_len {x : Int} (h : 0 ≤ x) (h1 : x < 10000) : 1 ≤ (dg x).length ∧ (dg x).length ≤ 4 := by
  unfold dg
  rw [List.length_map]
  have e := (Nat.length_repr_le_iff (n := x.natAbs) (by decide : 0 < 4)).mpr (by omega)
  rw [← String.length_toList, Nat.toList_repr] at e
  refine ⟨?_, e⟩
  generalize x.natAbs = n
  unfold Nat.toDigits Nat.toDigitsCore
  simp only
  split
  · simp
  · exact PyProof.Rows.dCore_len_ge 10 n (n / 10) [Nat.digitChar (n % 10)]
theorem fmt_cl {x : Int} (h : 0 ≤ x) : cl (PyProof.Rows.intSpecTextOf (">4" : Str) x) = List.replicate (4 - (dg x).length) 32 ++ dg x := by
  obtain ⟨f, hf, hw, hfi, ha, hg, hs⟩ : ∃ f, PySem.Builtin.Float.parseFormatSpec (">4" : Str).cps.toList "int" 62 = .ok f ∧ f.width = some 4 ∧ f.fill = 32 ∧ f.align = 62 ∧ f.grouping = none ∧ f.sign = none := ⟨_, rfl, rfl, rfl, rfl, rfl, rfl⟩
  unfold PyProof.Rows.intSpecTextOf
  rw [hf]
  show cl (PyProof.Rows.intSpecText f x) = _
  unfold PyProof.Rows.intSpecText PyProof.Rows.intField'
  have hd : ((Nat.toDigits 10 x.natAbs).map fun c => (if (100 : Nat) == 88 then c.toUpper else c).toNat) = dg x := rfl
  rw [hd, hw, hfi, ha, hg, hs]
  have hn : decide (x < 0) = false := decide_eq_false (by omega)
  have hz : (dg x).isEmpty = false := by
    cases q : dg x with
    | nil =>
      have : 1 ≤ (dg x).length := by
        unfold dg
        rw [List.length_map]
        generalize x.natAbs = n
        unfold Nat.toDigits Nat.toDigitsCore
        simp only
        split
        · simp
        · exact PyProof.Rows.dCore_len_ge 10 n (n / 10) [Nat.digitChar (n % 10)]
      rw [q] at this
      simp at this
    | cons _ _ => rfl
  rw [hn, hz]
  show List.replicate ((4 : Int) - (0 + 0 + 0) - _).toNat 32 ++ [] ++ [] ++ List.replicate 0 32 ++ _ ++ [] ++ List.replicate 0 32 = _
  simp
theorem rep_cl {L : Nat} (h : 1 ≤ L) (h4 : L ≤ 4) : cl (strRep (" " : Str) (4 - (L : Int))) = List.replicate (4 - L) 32 := by
  have hs : (" " : Str) = ⟨#[32]⟩ := by
    show Str.ofString " " = _
    rw [Str.ofString_eq_toList]
    rfl
  rw [hs]
  have c : L = 1 ∨ L = 2 ∨ L = 3 ∨ L = 4 := by omega
  rcases c with rfl | rfl | rfl | rfl
  · rfl
  · rfl
  · rfl
  · rfl

/-- a number in a column of four -/
def col (x : Int) : Str := PyProof.Rows.intSpecTextOf (">4" : Str) x
theorem cl_col {x : Int} (h : 0 ≤ x) (h1 : x < 10000) : cl (col x) = cl (strRep (" " : Str) (4 - ((T x).length : Int))) ++ cl (T x) := by
  obtain ⟨l1, l2⟩ := dg_len h h1
  unfold col
  rw [fmt_cl h, cl_len (T x), cl_T h, rep_cl l1 l2]
theorem col_len {x : Int} (h : 0 ≤ x) (h1 : x < 10000) : (cl (col x)).length = 4 := by
  obtain ⟨l1, l2⟩ := dg_len h h1
  unfold col
  rw [fmt_cl h, List.length_append, List.length_replicate]
  omega
theorem T_len {x : Int} (h : 0 ≤ x) (h1 : x < 10000) : (T x).length ≤ 4 := by
  rw [cl_len, cl_T h]
  exact (dg_len h h1).2
/-- one row behind another -/
def glue : List Str → Str
  | [] => ""
  | x :: r => x ++ glue r
theorem cl_glue : ∀ xs : List Str, cl (glue xs) = (xs.map cl).flatten
  | [] => cl_empty
  | x :: r => by
    show cl (x ++ glue r) = _
    rw [cl_app, cl_glue r]
    rfl
theorem flat_len {xs : List Int} (h : ∀ x ∈ xs, 0 ≤ x ∧ x < 10000) : ((xs.map col).map cl).flatten.length = 4 * xs.length := by
  induction xs with
  | nil => rfl
  | cons x r ih =>
    rw [List.map_cons, List.map_cons, List.flatten_cons, List.length_append, ih fun y hy => h y (List.mem_cons_of_mem _ hy), col_len (h x List.mem_cons_self).1 (h x List.mem_cons_self).2, List.length_cons]
    omega
theorem joinS_ok {xs : List Str} (h : (xs.map (·.length)).sum ≤ 1000) : M.join ("" : Str) xs = .ok (glue xs) := by
  have e : Txt.join ("" : Str) xs = glue xs := cl_inj (by rw [cl_join, cl_glue])
  unfold M.join
  rw [M.asrt_pos (by
    have : ("" : Str).length = 0 := by rw [cl_len, cl_empty]; rfl
    rw [this]
    omega), e]
theorem lens_sum : ∀ xs : List Str, (xs.map (·.length)).sum = ((xs.map cl).flatten).length
  | [] => rfl
  | x :: r => by
    show x.length + (r.map (·.length)).sum = _
    rw [lens_sum r, cl_len x, List.map_cons, List.flatten_cons, List.length_append]
/-- the text of a row -/
def rowS (p : Int) (c : List Int) : Str := glue (((p :: c).map col) ++ if 1 < (c.filter fun x => decide (0 < x)).length then [(" joint" : Str)] else [])
theorem joint_len : (" joint" : Str).length = 6 := by
  rw [cl_len, show (" joint" : Str) = Str.ofString " joint" from rfl, cl_of]
  rfl
theorem catS_ok {a b : Str} (h : a.length + b.length ≤ 1000) : M.catS a b = .ok (a ++ b) := M.asrt_pos (Nat.le_trans h (by decide))
theorem app_len (a b : Str) : (a ++ b).length = a.length + b.length := by rw [cl_len, cl_len, cl_len, cl_app, List.length_append]
/-- the law's row -/
theorem lrow_eq {p : Int} {c : List Int} (hp : 0 ≤ p ∧ p < 10000) (hc : ∀ x ∈ c, 0 ≤ x ∧ x < 10000) (hl : c.length ≤ 4) : l_row_m p c = .ok (rowS p c) := by
  have hall : ∀ x ∈ p :: c, 0 ≤ x ∧ x < 10000 := fun x hx => by
    rcases List.mem_cons.mp hx with rfl | hx
    · exact hp
    · exact hc x hx
  refine M.sat_val ?_
  unfold l_row_m
  rw [M.ok_bind, show M.cat [p] c = .ok (p :: c) from M.asrt_pos (by show 1 + c.length ≤ _; exact Nat.le_trans (show 1 + c.length ≤ 5 by omega) (by decide)), M.ok_bind]
  refine M.sat_bind (M.sat_fold (fun i (s : Str) => cl s = (((p :: c).take i).map col |>.map cl).flatten ∧ s.length = 4 * i) ⟨by rw [cl_empty]; rfl, by rw [cl_len, cl_empty]; rfl⟩ fun i x s hx ⟨h1, h2⟩ => ?_) fun s ⟨h1, h2⟩ => ?_
  · have hi : i < (p :: c).length := (List.getElem?_eq_some_iff.mp hx).1
    rw [List.length_cons] at hi
    obtain ⟨x0, x1⟩ := hall x (List.mem_of_getElem? hx)
    have ht : M.strI x = .ok (T x) := by
      unfold M.strI
      rw [M.asrt_pos]
      · rfl
      · by_cases z : x.natAbs = 0
        · rw [z]; decide
        · exact (Nat.log2_lt z).mpr (Nat.lt_of_lt_of_le (show x.natAbs < 10000 by omega) (Nat.le_trans (show 10000 ≤ 2 ^ 14 by decide) (Nat.pow_le_pow_right (by decide) (by decide))))
    have hT := T_len x0 x1
    have hcl := cl_col x0 x1
    have hcn := col_len x0 x1
    have hr : (strRep (" " : Str) (4 - ((T x).length : Int))).length + (T x).length = 4 := by
      rw [cl_len, cl_len (T x), ← List.length_append, ← hcn, hcl]
      rw [cl_len (T x)]
    rw [ht, M.ok_bind, show M.lenS (T x) = .ok ((T x).length : Int) from M.asrt_pos (Nat.le_trans hT (by decide)), M.ok_bind, M.ok_bind,
      show M.repS (" " : Str) (4 - ((T x).length : Int)) = .ok (strRep (" " : Str) (4 - ((T x).length : Int))) from M.asrt_pos ⟨by omega, by decide +kernel⟩, M.ok_bind,
      catS_ok (by omega), M.ok_bind, M.ok_bind, catS_ok (by rw [app_len]; omega), M.ok_bind]
    refine M.sat_ok ⟨?_, by rw [app_len, app_len]; omega⟩
    rw [cl_app, cl_app, h1, List.take_add_one, hx, List.map_append, List.map_append, List.flatten_append, List.append_assoc, ← hcl]
    simp
  · rw [List.take_length] at h1
    rw [List.length_cons] at h2
    rw [M.comp_filter (fun x : Int => decide (0 < x)) fun _ _ => rfl, M.ok_bind, M.ok_bind, M.ok_bind]
    by_cases hj : 1 < (c.filter fun x => decide (0 < x)).length
    · rw [if_pos (decide_eq_true (by omega)), catS_ok (by rw [joint_len]; omega), M.ok_bind, M.ok_bind]
      refine M.sat_ok (cl_inj ?_)
      rw [cl_app, h1]
      unfold rowS
      rw [if_pos hj, cl_glue, List.map_append, List.flatten_append]
      simp
    · rw [if_neg (by rw [decide_eq_false (by omega)]; decide), M.ok_bind]
      refine M.sat_ok (cl_inj ?_)
      rw [h1]
      unfold rowS
      rw [if_neg hj, cl_glue, List.append_nil]
/-! ### counts -/
section
variable {sides : List Int} {ties : List T4I}
abbrev LL := List (List Int)
def row (s : LL) (p : Int) : List Int := s.getD p.toNat []
def val (s : LL) (p v : Int) : Int := (row s p).getD v.toNat 0
def bump (s : LL) (p v : Int) : LL := s.set p.toNat ((row s p).set v.toNat (val s p v + 1))
structure Sh (sides : List Int) (s : LL) : Prop where
  ln : s.length = sides.length
  rw : ∀ p : Int, 0 ≤ p → p < sides.length → ((row s p).length : Int) = sides.getD p.toNat 0
  nn : ∀ p : Int, 0 ≤ p → p < sides.length → ∀ x ∈ row s p, 0 ≤ x
theorem row_set {s : LL} {p q : Int} {r : List Int} (hp : 0 ≤ p ∧ p < s.length) (hq : 0 ≤ q) : row (s.set p.toNat r) q = if q = p then r else row s q := by
  unfold row
  rw [List.getD_eq_getElem?_getD, List.getD_eq_getElem?_getD]
  by_cases e : q = p
  · subst e
    rw [if_pos rfl, List.getElem?_set_self (by omega)]
    rfl
  · rw [if_neg e, List.getElem?_set_ne (by omega)]
theorem getD_set {r : List Int} {v w x : Int} (hv : 0 ≤ v ∧ v < r.length) (hw : 0 ≤ w) : (r.set v.toNat x).getD w.toNat 0 = if w = v then x else r.getD w.toNat 0 := by
  rw [List.getD_eq_getElem?_getD, List.getD_eq_getElem?_getD]
  by_cases e : w = v
  · subst e
    rw [if_pos rfl, List.getElem?_set_self (by omega)]
    rfl
  · rw [if_neg e, List.getElem?_set_ne (by omega)]
theorem val_bump {s : LL} (S : Sh sides s) {a b p v : Int} (ha : 0 ≤ a ∧ a < sides.length) (hb : 0 ≤ b ∧ b < sides.getD a.toNat 0) (hp : 0 ≤ p) (hv : 0 ≤ v) : val (bump s a b) p v = val s p v + if p = a ∧ v = b then 1 else 0 := by
  unfold bump
  have e : row (s.set a.toNat ((row s a).set b.toNat (val s a b + 1))) p = _ := row_set (by rw [S.ln]; exact ha) hp
  show (row _ p).getD v.toNat 0 = _
  rw [e]
  by_cases h : p = a
  · subst h
    rw [if_pos rfl, getD_set (by rw [S.rw p ha.1 ha.2]; exact hb) hv]
    by_cases h2 : v = b
    · subst h2
      rw [if_pos rfl, if_pos ⟨rfl, rfl⟩]
    · rw [if_neg h2, if_neg fun z => h2 z.2]
      show _ = (row s p).getD v.toNat 0 + 0
      omega
  · rw [if_neg h, if_neg fun z => h z.1]
    show _ = (row s p).getD v.toNat 0 + 0
    unfold row
    omega
theorem val_nn {s : LL} (S : Sh sides s) {p v : Int} (hp : 0 ≤ p ∧ p < sides.length) : 0 ≤ val s p v := by
  unfold val
  rw [List.getD_eq_getElem?_getD]
  cases h : (row s p)[v.toNat]? with
  | none => exact Int.le_refl 0
  | some x => exact S.nn p hp.1 hp.2 x (List.mem_of_getElem? h)
theorem Sh.bump {s : LL} (S : Sh sides s) {a b : Int} (ha : 0 ≤ a ∧ a < sides.length) (hb : 0 ≤ b ∧ b < sides.getD a.toNat 0) : Sh sides (bump s a b) := by
  have e : ∀ p : Int, 0 ≤ p → row (K00.bump s a b) p = if p = a then (row s a).set b.toNat (val s a b + 1) else row s p := fun p hp => row_set (by rw [S.ln]; exact ha) hp
  refine ⟨by unfold K00.bump; rw [List.length_set]; exact S.ln, fun p h0 h1 => ?_, fun p h0 h1 x hx => ?_⟩
  · rw [e p h0]
    split
    · rename_i h; subst h
      rw [List.length_set]; exact S.rw p h0 h1
    · exact S.rw p h0 h1
  · rw [e p h0] at hx
    split at hx
    · rename_i h; subst h
      rcases List.mem_or_eq_of_mem_set hx with hx | hx
      · exact S.nn p h0 h1 x hx
      · have := val_nn S (p := p) (v := b) ⟨h0, h1⟩
        omega
    · exact S.nn p h0 h1 x hx
theorem ix_row {s : LL} (S : Sh sides s) {a : Int} (ha : 0 ≤ a ∧ a < sides.length) : M.ix s a = .ok (row s a) := M.ix_getD [] ha.1 (by rw [S.ln]; exact ha.2)
theorem ix_val {s : LL} (S : Sh sides s) {a b : Int} (ha : 0 ≤ a ∧ a < sides.length) (hb : 0 ≤ b ∧ b < sides.getD a.toNat 0) : M.ix (row s a) b = .ok (val s a b) := M.ix_getD 0 hb.1 (by rw [S.rw a ha.1 ha.2]; exact hb.2)
theorem ixN_ok {n : Nat} {p : Int} (h0 : 0 ≤ p) (h1 : p < n) : ixN n p = some p.toNat := by
  unfold ixN
  rw [if_pos h0, if_pos h1]
theorem at_row {s : LL} (S : Sh sides s) {a : Int} (ha : 0 ≤ a ∧ a < sides.length) : s[a.toNat]? = some (row s a) := by
  unfold row
  rw [List.getD_eq_getElem?_getD, List.getElem?_eq_getElem (by rw [S.ln]; omega)]
  rfl
theorem at_val {s : LL} (S : Sh sides s) {a b : Int} (ha : 0 ≤ a ∧ a < sides.length) (hb : 0 ≤ b ∧ b < sides.getD a.toNat 0) : (row s a)[b.toNat]? = some (val s a b) := by
  have := S.rw a ha.1 ha.2
  unfold val
  rw [List.getD_eq_getElem?_getD, List.getElem?_eq_getElem (by omega)]
  rfl
theorem set_eq {s : LL} (S : Sh sides s) {a b : Int} (ha : 0 ≤ a ∧ a < sides.length) (hb : 0 ≤ b ∧ b < sides.getD a.toNat 0) : M.setIxx s (M.ok a) (M.ok b) (((M.ix s a) >>= fun t9 => (M.ix t9 b)) >>= fun t10 => (M.ok (t10 + (1 : Int)))) = .ok (bump s a b) := by
  have hr := S.rw a ha.1 ha.2
  unfold M.setIxx
  rw [ix_row S ha, M.ok_bind, ix_val S ha hb, M.ok_bind, M.ok_bind, M.ok_bind, ixN_ok ha.1 (by rw [S.ln]; exact ha.2), M.ofO_some, M.ok_bind, at_row S ha, M.ofO_some, M.ok_bind, M.ok_bind, ixN_ok hb.1 (by omega), M.ofO_some, M.ok_bind]
  rfl
theorem aug_eq {s : LL} (S : Sh sides s) {a b : Int} (ha : 0 ≤ a ∧ a < sides.length) (hb : 0 ≤ b ∧ b < sides.getD a.toNat 0) : M.augIxx (fun i j => i + j) s (M.ok a) (M.ok b) (M.ok (1 : Int)) = .ok (bump s a b) := by
  have hr := S.rw a ha.1 ha.2
  unfold M.augIxx
  rw [M.ok_bind, ixN_ok ha.1 (by rw [S.ln]; exact ha.2), M.ofO_some, M.ok_bind, at_row S ha, M.ofO_some, M.ok_bind, M.ok_bind, ixN_ok hb.1 (by omega), M.ofO_some, M.ok_bind, at_val S ha hb, M.ofO_some, M.ok_bind, M.ok_bind]
  rfl
def step (s : LL) (x : T4I) : LL := bump (bump s x.a x.b) x.c x.d
def cnts (sides : List Int) (ties : List T4I) : LL := ties.foldl step (sides.map fun m => List.replicate m.toNat 0)
theorem sh0 (hs : ∀ x ∈ sides, 1 ≤ x ∧ x ≤ 4) : Sh sides (sides.map fun m => List.replicate m.toNat 0) := by
  have e : ∀ p : Int, 0 ≤ p → p < sides.length → row (sides.map fun m => List.replicate m.toNat (0 : Int)) p = List.replicate (sides.getD p.toNat 0).toNat 0 := fun p h0 h1 => by
    unfold row
    rw [List.getD_eq_getElem?_getD, List.getD_eq_getElem?_getD, List.getElem?_map, List.getElem?_eq_getElem (by omega)]
    rfl
  refine ⟨by simp, fun p h0 h1 => ?_, fun p h0 h1 x hx => ?_⟩
  · rw [e p h0 h1, List.length_replicate]
    have := hs _ (getD_mem (xs := sides) h0 h1)
    omega
  · rw [e p h0 h1] at hx
    rw [(List.mem_replicate.mp hx).2]
    exact Int.le_refl 0
def okT (sides : List Int) (x : T4I) : Prop := ((0 ≤ x.a ∧ x.a < sides.length) ∧ 0 ≤ x.b ∧ x.b < sides.getD x.a.toNat 0) ∧ (0 ≤ x.c ∧ x.c < sides.length) ∧ 0 ≤ x.d ∧ x.d < sides.getD x.c.toNat 0
theorem okT_of (g : Good sides ties) : ∀ x ∈ ties, okT sides x := fun x hx => by
  obtain ⟨a, b, c, d, e, f, g', h⟩ := g.ti x hx
  exact ⟨⟨⟨a, b⟩, c, d⟩, ⟨e, f⟩, g', h⟩
theorem Sh.step {s : LL} (S : Sh sides s) {x : T4I} (h : okT sides x) : Sh sides (step s x) := (S.bump h.1.1 h.1.2).bump h.2.1 h.2.2
theorem cnts_sh (g : Good sides ties) : Sh sides (cnts sides ties) := by
  have : ∀ (l : List T4I) (s : LL), Sh sides s → (∀ x ∈ l, okT sides x) → Sh sides (l.foldl K00.step s) := by
    intro l
    induction l with
    | nil => exact fun s S _ => S
    | cons x l ih => exact fun s S h => ih _ (S.step (h x List.mem_cons_self)) fun y hy => h y (List.mem_cons_of_mem _ hy)
  exact this _ _ (sh0 g.sd) (okT_of g)
/-- the ends counted -/
theorem cnts_val {p v : Int} (hp : 0 ≤ p) (hv : 0 ≤ v) : ∀ (l : List T4I) (s : LL), Sh sides s → (∀ x ∈ l, okT sides x) → val s p v ≤ val (l.foldl step s) p v ∧ val (l.foldl step s) p v ≤ val s p v + 2 * l.length ∧ (val s p v < val (l.foldl step s) p v ↔ memU l p v)
  | [], s, _, _ => ⟨Int.le_refl _, by simp, ⟨fun h => absurd h (Int.lt_irrefl _), fun ⟨x, hx, _⟩ => nomatch hx⟩⟩
  | x :: l, s, S, h => by
    have hx := h x List.mem_cons_self
    obtain ⟨h1, h2, h3⟩ := cnts_val hp hv l (step s x) (S.step hx) fun y hy => h y (List.mem_cons_of_mem _ hy)
    have e : val (step s x) p v = val s p v + (if p = x.a ∧ v = x.b then 1 else 0) + (if p = x.c ∧ v = x.d then 1 else 0) := by
      unfold step
      rw [val_bump (S.bump hx.1.1 hx.1.2) hx.2.1 hx.2.2 hp hv, val_bump S hx.1.1 hx.1.2 hp hv]
    rw [List.foldl_cons, List.length_cons]
    have mu : memU (x :: l) p v ↔ (p = x.a ∧ v = x.b) ∨ (p = x.c ∧ v = x.d) ∨ memU l p v := by
      constructor
      · rintro ⟨y, hy, k⟩
        rcases List.mem_cons.mp hy with rfl | hy
        · rcases k with ⟨a, b⟩ | ⟨a, b⟩
          · exact .inl ⟨a.symm, b.symm⟩
          · exact .inr (.inl ⟨a.symm, b.symm⟩)
        · exact .inr (.inr ⟨y, hy, k⟩)
      · rintro (⟨a, b⟩ | ⟨a, b⟩ | ⟨y, hy, k⟩)
        · exact ⟨x, List.mem_cons_self, .inl ⟨a.symm, b.symm⟩⟩
        · exact ⟨x, List.mem_cons_self, .inr ⟨a.symm, b.symm⟩⟩
        · exact ⟨y, List.mem_cons_of_mem _ hy, k⟩
    rw [mu, ← h3]
    by_cases c1 : p = x.a ∧ v = x.b
    · rw [if_pos c1] at e
      by_cases c2 : p = x.c ∧ v = x.d
      · rw [if_pos c2] at e
        exact ⟨by omega, by push_cast; omega, ⟨fun _ => .inl c1, fun _ => by omega⟩⟩
      · rw [if_neg c2] at e
        exact ⟨by omega, by push_cast; omega, ⟨fun _ => .inl c1, fun _ => by omega⟩⟩
    · rw [if_neg c1] at e
      by_cases c2 : p = x.c ∧ v = x.d
      · rw [if_pos c2] at e
        exact ⟨by omega, by push_cast; omega, ⟨fun _ => .inr (.inl c2), fun _ => by omega⟩⟩
      · rw [if_neg c2] at e
        refine ⟨by omega, by push_cast; omega, ⟨fun z => .inr (.inr (by omega)), ?_⟩⟩
        rintro (z | z | z)
        · exact absurd z c1
        · exact absurd z c2
        · omega
theorem val0 {p v : Int} : val (sides.map fun m => List.replicate m.toNat 0) p v = 0 := by
  unfold val row
  rw [List.getD_eq_getElem?_getD, List.getD_eq_getElem?_getD, List.getElem?_map]
  cases sides[p.toNat]? with
  | none => rfl
  | some m =>
    show ((List.replicate m.toNat (0 : Int))[v.toNat]?).getD 0 = 0
    rw [List.getElem?_replicate]
    split <;> rfl
theorem cnt_pos (g : Good sides ties) {p v : Int} (hp : 0 ≤ p) (hv : 0 ≤ v) : 0 < val (cnts sides ties) p v ↔ memU ties p v := by
  have := (cnts_val hp hv ties _ (sh0 g.sd) (okT_of g)).2.2
  rw [val0] at this
  exact this
theorem cnt_le (g : Good sides ties) {p v : Int} (hp : 0 ≤ p) (hv : 0 ≤ v) : val (cnts sides ties) p v ≤ 2 * ties.length := by
  have := (cnts_val hp hv ties _ (sh0 g.sd) (okT_of g)).2.1
  rw [val0] at this
  have e : val (cnts sides ties) p v = val (ties.foldl step (sides.map fun m => List.replicate m.toNat 0)) p v := rfl
  omega
theorem row_rg (g : Good sides ties) {p : Int} (hp : 0 ≤ p ∧ p < sides.length) : ∀ x ∈ row (cnts sides ties) p, 0 ≤ x ∧ x ≤ 2 * ties.length := fun x hx => by
  obtain ⟨j, hj, e⟩ := List.getElem_of_mem hx
  have := cnt_le g (p := p) (v := (j : Int)) hp.1 (by omega)
  refine ⟨(cnts_sh g).nn p hp.1 hp.2 x hx, ?_⟩
  unfold val at this
  rw [Int.toNat_natCast, List.getD_eq_getElem?_getD, List.getElem?_eq_getElem hj, e] at this
  exact this
theorem lcounts_eq (g : Good sides ties) (hs : sides.length ≤ 1000) : l_counts_m sides ties = .ok (cnts sides ties) := by
  refine M.sat_val ?_
  unfold l_counts_m
  rw [M.ok_bind, M.ok_bind]
  refine M.sat_bind (M.sat_fold (fun i (s : LL) => s = (sides.take i).map fun m => List.replicate m.toNat 0) rfl fun i x s hx hI => ?_) fun s hI => ?_
  · have hi := (List.getElem?_eq_some_iff.mp hx).1
    have hx4 := g.sd x (List.mem_of_getElem? hx)
    rw [M.range_ok (by omega) (by omega), M.ok_bind, M.comp_map (fun _ => (0 : Int)), M.push_small (by rw [hI, List.length_map, List.length_take]; omega), M.ok_bind]
    refine M.sat_ok ?_
    rw [hI, List.take_add_one, hx, List.map_append]
    congr 1
    show [(rngL 0 x.toNat).map fun _ => (0 : Int)] = [List.replicate x.toNat 0]
    congr 1
    rw [List.map_const', rngL_len]
  · rw [List.take_length] at hI
    subst hI
    rw [M.ok_bind]
    rw [foldl_ok (g := step) (fun s => Sh sides s) ties _ (sh0 g.sd) fun x hx s S => by
      have h := okT_of g x hx
      rw [set_eq S h.1.1 h.1.2, M.ok_bind, set_eq (S.bump h.1.1 h.1.2) h.2.1 h.2.2, M.ok_bind]
      exact ⟨rfl, S.step h⟩, M.ok_bind]
    exact M.sat_ok rfl
theorem rep0 {m : Int} (h0 : 0 ≤ m) (h1 : m ≤ 1000) : M.rep [(0 : Int)] m = .ok (List.replicate m.toNat 0) := by
  unfold M.rep
  rw [M.asrt_pos ⟨by omega, by omega, by rw [List.length_singleton, Nat.one_mul]; exact Nat.le_of_lt (small1k (by omega))⟩]
  congr 1
  have : ∀ n : Nat, (List.replicate n [(0 : Int)]).flatten = List.replicate n 0 := fun n => by
    induction n with
    | zero => rfl
    | succ n ih => rw [List.replicate_succ, List.flatten_cons, ih]; rfl
  exact this _
theorem pcounts_eq (g : Good sides ties) : p_end_counts_m ⟨⟨sides⟩, ⟨ties⟩⟩ = .ok (cnts sides ties) := by
  unfold p_end_counts_m
  rw [M.comp_mapM (fun m : Int => List.replicate m.toNat 0) fun x hx => rep0 (by have := g.sd x hx; omega) (by have := g.sd x hx; omega), M.ok_bind, M.ok_bind]
  rw [foldl_ok (g := step) (fun s => Sh sides s) ties _ (sh0 g.sd) fun x hx s S => by
    have h := okT_of g x hx
    rw [aug_eq S h.1.1 h.1.2, M.ok_bind, aug_eq (S.bump h.1.1 h.1.2) h.2.1 h.2.2, M.ok_bind]
    exact ⟨rfl, S.step h⟩, M.ok_bind]
  rfl
/-! ### the table -/
theorem fmt_ok {x : Int} (h : 0 ≤ x ∧ x < 10000) : M.fmtI (">4" : Str) x = .ok (col x) := M.asrt_pos (by omega)
theorem enum_rows (g : Good sides ties) {i : Nat} {x : Int × List Int} (hx : (M.enumL (cnts sides ties))[i]? = some x) : i < sides.length ∧ x = ((i : Int), row (cnts sides ties) i) := by
  rw [← M.enumL_get] at hx
  unfold enumI at hx
  cases hr : (cnts sides ties)[i]? with
  | none => rw [hr] at hx; cases hx
  | some r =>
    rw [hr] at hx
    cases hx
    have hi := (List.getElem?_eq_some_iff.mp hr).1
    rw [(cnts_sh g).ln] at hi
    refine ⟨hi, ?_⟩
    unfold row
    rw [Int.toNat_natCast, List.getD_eq_getElem?_getD, hr]
    rfl
theorem table_eq (g : Good sides ties) (hs : sides.length ≤ 1000) (ht : ties.length ≤ 1000) : p_side_table_m ⟨⟨sides⟩, ⟨ties⟩⟩ = .ok ((rngL 0 sides.length).map fun p => rowS p (row (cnts sides ties) p)) := by
  refine M.sat_val ?_
  unfold p_side_table_m
  rw [M.ok_bind, pcounts_eq g, M.ok_bind, M.ok_bind]
  refine M.sat_bind (M.sat_fold (fun i (s : List Str) => s = (rngL 0 i).map fun p => rowS p (row (cnts sides ties) p)) rfl fun i x s hx hI => ?_) fun s hI => ?_
  · obtain ⟨hi, rfl⟩ := enum_rows g hx
    simp only
    have hp : 0 ≤ (i : Int) ∧ (i : Int) < sides.length := by omega
    have hr := row_rg g hp
    have hl := (cnts_sh g).rw i hp.1 hp.2
    have h4 := g.sd _ (getD_mem (xs := sides) hp.1 hp.2)
    generalize hc : row (cnts sides ties) (i : Int) = c at hr hl
    have hall : ∀ x ∈ (i : Int) :: c, 0 ≤ x ∧ x < 10000 := fun x hx => by
      rcases List.mem_cons.mp hx with rfl | hx
      · omega
      · have := hr x hx; omega
    rw [show M.cat [(i : Int)] c = .ok ((i : Int) :: c) from M.asrt_pos (by show 1 + c.length ≤ _; exact Nat.le_trans (show 1 + c.length ≤ 5 by omega) (by decide)), M.ok_bind, M.comp_mapM col fun x hx => fmt_ok (hall x hx), M.ok_bind, M.comp_filter (fun x : Int => decide (0 < x)) fun _ _ => rfl, M.ok_bind, M.ok_bind, M.ok_bind]
    have hsum : ((((i : Int) :: c).map col).map (·.length)).sum = 4 * (c.length + 1) := by
      rw [lens_sum, flat_len hall, List.length_cons]
    have push : M.sat (M.push s (M.ok (rowS (i : Int) c)) >>= fun rows_12 => M.ok rows_12) fun s => s = (rngL 0 (i + 1)).map fun p => rowS p (row (cnts sides ties) p) := by
      rw [M.push_small (by rw [hI, List.length_map, rngL_len]; omega), M.ok_bind]
      refine M.sat_ok ?_
      rw [hI, rngL_succ, List.map_append]
      congr 1
      show [rowS (i : Int) c] = [rowS (0 + (i : Int)) (row (cnts sides ties) (0 + (i : Int)))]
      rw [Int.zero_add, hc]
    by_cases hj : 1 < (c.filter fun x => decide (0 < x)).length
    · rw [if_pos (decide_eq_true (by omega)), M.push_small (by simp; omega), M.ok_bind, M.ok_bind, joinS_ok (by rw [List.map_append, List.sum_append, hsum]; show _ + ((" joint" : Str).length + 0) ≤ _; rw [joint_len]; omega)]
      have e : glue (((i : Int) :: c).map col ++ [(" joint" : Str)]) = rowS (i : Int) c := by unfold rowS; rw [if_pos hj]
      rw [e]
      exact push
    · rw [if_neg (by rw [decide_eq_false (by omega)]; decide), M.ok_bind, joinS_ok (by rw [hsum]; omega)]
      have e : glue (((i : Int) :: c).map col) = rowS (i : Int) c := by unfold rowS; rw [if_neg hj, List.append_nil]
      rw [e]
      exact push
  · rw [M.enumL_len, (cnts_sh g).ln] at hI
    exact M.sat_ok hI
end
/-! ### the law -/
section
variable {sides : List Int} {ties : List T4I}
theorem numbers_true {xs ys : List Int} (h : xs = ys) (hl : ys.length ≤ 1000) : l_numbers_m xs ys = .ok true := by
  subst h
  unfold l_numbers_m
  rw [if_neg (by simp), M.rangeN (by omega), M.ok_bind, M.foldC_unit _ fun x hx => by
    have hx := mem_rngL.mp hx
    rw [M.ix_getD 0 hx.1 (by omega)]
    simp only [M.ok_bind]
    show ((M.ok (!(true && !false)) : M Bool) >>= fun b7 => _) = _
    simp, M.ok_bind]
  rfl
/-- the sides with ends -/
def used (sides : List Int) (ties : List T4I) (p : Int) : List Int := (rngL 0 (sides.getD p.toNat 0).toNat).filter fun v => decide (0 < val (cnts sides ties) p v)
theorem mem_used (g : Good sides ties) {p v : Int} (hp : 0 ≤ p ∧ p < sides.length) : v ∈ used sides ties p ↔ memU ties p v := by
  unfold used
  rw [List.mem_filter, mem_rngL, decide_eq_true_eq]
  constructor
  · rintro ⟨⟨h0, h1⟩, h⟩
    exact (cnt_pos g hp.1 h0).mp h
  · intro h
    obtain ⟨x, hx, k⟩ := id h
    have := okT_of g x hx
    have hv : 0 ≤ v ∧ v < sides.getD p.toNat 0 := by
      rcases k with ⟨rfl, rfl⟩ | ⟨rfl, rfl⟩
      · exact this.1.2
      · exact this.2.2
    exact ⟨by omega, (cnt_pos g hp.1 hv.1).mpr h⟩
theorem rng_pw (n : Nat) : (rngL 0 n).Pairwise (· < ·) := by
  unfold rngL
  exact List.pairwise_map.mpr (List.Pairwise.imp (fun h => by omega) List.pairwise_lt_range)
theorem used_is (g : Good sides ties) {p : Int} (hp : 0 ≤ p ∧ p < sides.length) : isort (setOf (usP ties p)).l = used sides ties p := by
  have pw : (used sides ties p).Pairwise (· < ·) := (rng_pw _).filter _
  have hn : (setOf (usP ties p)).l.Nodup := (setOf_few fun y hy => memU_range g.sided (usP_mem.mp hy)).nd
  refine (isort_eq ?_ (pw.imp fun h => by omega)).symm
  refine (List.perm_ext_iff_of_nodup (pw.imp fun h => by omega) hn).mpr fun v => ?_
  rw [mem_used g hp, setOf_mem, usP_mem]
theorem used_ok (g : Good sides ties) (ht : ties.length ≤ 400) {p : Int} (hp : 0 ≤ p ∧ p < sides.length) : m_Web_used_sides_m ⟨⟨sides⟩, ⟨ties⟩⟩ p = .ok (used sides ties p) := by
  rw [used_eq g.sided ht hp.1 hp.2, used_is g hp]
theorem used_len (g : Good sides ties) {p : Int} (hp : 0 ≤ p ∧ p < sides.length) : (used sides ties p).length ≤ 4 := by
  have := List.length_filter_le (fun v => decide (0 < val (cnts sides ties) p v)) (rngL 0 (sides.getD p.toNat 0).toNat)
  rw [rngL_len] at this
  have h4 := g.sd _ (getD_mem (xs := sides) hp.1 hp.2)
  unfold used
  omega
theorem used_bad {p : Int} (h : p < 0 ∨ (sides.length : Int) ≤ p) : m_Web_used_sides_m ⟨⟨sides⟩, ⟨ties⟩⟩ p = .exc ⟨.UnknownPlace, some [("place", .int p)]⟩ := by
  unfold m_Web_used_sides_m m_Web_steps_from_m
  have hh : m_WebX_containsX_m (⟨⟨sides⟩, ⟨ties⟩⟩ : WebM) p = .ok false := by
    rw [has_eq]
    congr 1
    rw [Bool.and_eq_false_iff, decide_eq_false_iff_not, decide_eq_false_iff_not]
    rcases h with h | h
    · exact .inl (by omega)
    · exact .inr (by show ¬ p < sides.length; omega)
  rw [hh]
  rfl
theorem refused_true {p : Int} (h : p < 0 ∨ (sides.length : Int) ≤ p) : l_refused_m ⟨⟨sides⟩, ⟨ties⟩⟩ p = .ok true := by
  unfold l_refused_m
  rw [used_bad h]
  show M.tryK kn _ (M.exc ⟨.UnknownPlace, some [("place", .int p)]⟩) _ = _
  rw [M.tryK_exc (by rfl) (by rfl), if_pos (by rfl), if_pos rfl, show (⟨.UnknownPlace, some [("place", .int p)]⟩ : PX).fld .UnknownPlace "place" = .ok p from rfl, M.ok_bind]
  simp
theorem joint_is (g : Good sides ties) {p : Int} (hp : 0 ≤ p ∧ p < sides.length) : IsJoint ties p ↔ 1 < (used sides ties p).length := by
  rw [← joint_used g.sided, used_is g hp]
  omega
theorem right_sides_true (g : Good sides ties) (hs : sides.length ≤ 300) (ht : ties.length ≤ 400) : l_right_sides_m ⟨⟨sides⟩, ⟨ties⟩⟩ (cnts sides ties) = .ok true := by
  have S := cnts_sh g
  refine M.sat_val ?_
  unfold l_right_sides_m
  rw [M.ok_bind, M.rangeN (by rw [S.ln]; omega), M.ok_bind, S.ln]
  refine M.sat_bind (R1 := fun c : Ct (List Int) Bool => c = .nx (jointsOf sides.length ties)) (M.sat_foldC (fun i (s : List Int) => s = (rngL 0 i).filter fun p => decide (1 < (used sides ties p).length)) rfl (fun i x s hx hI => ?_) fun s hI => ?_) fun c hc => ?_
  · obtain ⟨hi, rfl⟩ := rngL_get hx
    rw [Int.zero_add]
    have hp : 0 ≤ (i : Int) ∧ (i : Int) < sides.length := by omega
    have hl := S.rw i hp.1 hp.2
    have h4 := g.sd _ (getD_mem (xs := sides) hp.1 hp.2)
    have hul := used_len g hp
    rw [ix_row S hp, M.ok_bind, M.ok_bind, M.rangeN (by omega), M.ok_bind, M.comp_filter (fun v => decide (0 < val (cnts sides ties) (i : Int) v)) fun v hv => by
      have hv := mem_rngL.mp hv
      rw [M.ok_bind, ix_val S hp (by omega)]
      rfl, M.ok_bind]
    have eu : (rngL 0 (row (cnts sides ties) (i : Int)).length).filter (fun v => decide (0 < val (cnts sides ties) (i : Int) v)) = used sides ties i := by
      unfold used
      rw [show (row (cnts sides ties) (i : Int)).length = (sides.getD ((i : Int)).toNat 0).toNat by omega]
    rw [eu, used_ok g ht hp, M.ok_bind, numbers_true rfl (by omega), M.calm_of_ok, M.ok_bind, M.ok_bind, if_neg (by decide), M.push_small (by omega), M.ok_bind]
    have hsl : s.length ≤ i := by
      rw [hI]
      have := List.length_filter_le (fun p => decide (1 < (used sides ties p).length)) (rngL 0 i)
      rwa [rngL_len] at this
    by_cases hj : 1 < (used sides ties (i : Int)).length
    · rw [if_pos (decide_eq_true (by omega)), M.push_small (by omega), M.ok_bind]
      refine M.sat_ok ?_
      show s ++ [(i : Int)] = _
      rw [hI, rngL_succ, List.filter_append, Int.zero_add]
      congr 1
      simp [hj]
    · rw [if_neg (by rw [decide_eq_false (by omega)]; decide)]
      refine M.sat_ok ?_
      show s = _
      rw [hI, rngL_succ, List.filter_append, Int.zero_add]
      simp [hj]
  · rw [rngL_len] at hI
    show Ct.nx s = Ct.nx (jointsOf sides.length ties)
    rw [hI]
    congr 1
    unfold jointsOf
    refine List.filter_congr fun p hp => ?_
    have hp := mem_rngL.mp hp
    exact decide_eq_decide.mpr (joint_is g (by omega)).symm
  · subst hc
    have hjl := jointsOf_len sides.length ties
    show M.sat ((M.ok [(-(1 : Int)), ((sides.length : Nat) : Int), (((sides.length : Nat) : Int) + (5 : Int))]) >>= _) _
    rw [M.ok_bind, M.foldC_unit _ fun x hx => by
      have hx : x < 0 ∨ (sides.length : Int) ≤ x := by
        simp only [List.mem_cons, List.not_mem_nil, or_false] at hx
        rcases hx with rfl | rfl | rfl
        · exact .inl (by decide)
        · exact .inr (Int.le_refl _)
        · exact .inr (by omega)
      rw [refused_true hx, M.ok_bind, M.ok_bind, if_neg (by decide)], M.ok_bind]
    show M.sat (((M.calm (m_Web_joints_m ⟨⟨sides⟩, ⟨ties⟩⟩)) >>= fun t25 => (M.ok true)) >>= fun b29 => (if b29 then (((M.calm (m_Web_joints_m ⟨⟨sides⟩, ⟨ties⟩⟩)) >>= fun t27 => (M.ok t27.l)) >>= fun t28 => (l_numbers_m t28 (jointsOf sides.length ties))) else .ok false)) _
    rw [joints_eq g.sided ht (by omega), M.calm_of_ok, M.ok_bind, M.ok_bind, if_pos rfl, M.ok_bind, M.ok_bind, numbers_true rfl (by show (jointsOf sides.length ties).length ≤ 1000; omega)]
    exact M.sat_ok rfl
theorem right_true (g : Good sides ties) (hs : sides.length ≤ 200) (ht : ties.length ≤ 300) : l_right_m ⟨⟨sides⟩, ⟨ties⟩⟩ sides ties = .ok true := by
  have S := cnts_sh g
  have hlen : ∀ p : Int, 0 ≤ p → p < sides.length → (row (cnts sides ties) p).length ≤ 4 := fun p h0 h1 => by
    have := S.rw p h0 h1
    have h4 := g.sd _ (getD_mem (xs := sides) h0 h1)
    omega
  refine M.sat_val ?_
  unfold l_right_m
  rw [lcounts_eq g (by omega), M.ok_bind, pcounts_eq g, M.ok_bind, if_neg (by simp), M.rangeN (by rw [S.ln]; omega), M.ok_bind, M.foldC_unit _ fun x hx => by
    have hx := mem_rngL.mp hx
    rw [S.ln] at hx
    have hp : 0 ≤ x ∧ x < sides.length := by omega
    rw [ix_row S hp, M.ok_bind, M.ok_bind, numbers_true rfl (by have := hlen x hp.1 hp.2; omega), M.calm_of_ok, M.ok_bind, M.ok_bind, if_neg (by decide)], M.ok_bind]
  show M.sat (p_side_table_m ⟨⟨sides⟩, ⟨ties⟩⟩ >>= _) _
  rw [table_eq g (by omega) (by omega), M.ok_bind, if_neg (by simp [S.ln, rngL_len]), M.ok_bind, S.ln]
  refine M.sat_bind (R1 := fun c : Ct LL Bool => ∃ s, c = .nx s ∧ s.length = sides.length) (M.sat_foldC (fun i (s : LL) => s.length = sides.length ∧ ∀ r ∈ s, r.length ≤ 4 + i) ⟨S.ln, fun r hr => ?_⟩ (fun i x s hx ⟨h1, h2⟩ => ?_) fun s ⟨h1, _⟩ => ⟨s, rfl, h1⟩) fun c ⟨s, hc, hl⟩ => ?_
  · obtain ⟨j, hj, e⟩ := List.getElem_of_mem hr
    have hj2 : (j : Int) < sides.length := by rw [S.ln] at hj; omega
    have := hlen j (by omega) hj2
    unfold row at this
    rw [Int.toNat_natCast, List.getD_eq_getElem?_getD, List.getElem?_eq_getElem hj, e] at this
    exact this
  · obtain ⟨hi, rfl⟩ := rngL_get hx
    rw [Int.zero_add]
    have hp : 0 ≤ (i : Int) ∧ (i : Int) < sides.length := by omega
    have er : M.ix ((rngL 0 sides.length).map fun p => rowS p (row (cnts sides ties) p)) (i : Int) = .ok (rowS i (row (cnts sides ties) i)) := by
      rw [M.ix_getD Str.empty hp.1 (by rw [List.length_map, rngL_len]; exact hp.2)]
      congr 1
      rw [Int.toNat_natCast, List.getD_eq_getElem?_getD, List.getElem?_map]
      have : (rngL 0 sides.length)[i]? = some (i : Int) := by
        rw [List.getElem?_eq_getElem (by rw [rngL_len]; omega)]
        have := rngL_get (List.getElem?_eq_getElem (show i < (rngL 0 sides.length).length by rw [rngL_len]; omega))
        rw [this.2]
        congr 1
        omega
      rw [this]
      rfl
    have hrr := row_rg g hp
    rw [er, M.ok_bind, M.ok_bind, M.ok_bind, if_neg (by decide), ix_row S hp]
    simp only [M.ok_bind]
    rw [lrow_eq (by omega) (fun y hy => by have := hrr y hy; omega) (hlen _ hp.1 hp.2)]
    simp only [M.ok_bind]
    rw [if_neg (by simp)]
    have hr4 : ∃ r, s[i]? = some r ∧ r.length ≤ 4 + i := ⟨_, List.getElem?_eq_getElem (by omega), h2 _ (List.getElem_mem (by omega))⟩
    obtain ⟨r, e1, e2⟩ := hr4
    have ea : M.appIx s (M.ok (i : Int)) (M.ok (i : Int)) = .ok (s.set i (r ++ [(i : Int)])) := by
      unfold M.appIx
      rw [M.ok_bind, ixN_ok (by omega) (by omega), M.ofO_some, M.ok_bind, Int.toNat_natCast, e1, M.ofO_some, M.ok_bind, M.ok_bind]
      exact M.asrt_pos (Nat.lt_of_le_of_lt (show r.length ≤ 300 by omega) (by decide))
    rw [ea, M.ok_bind]
    refine M.sat_ok ⟨by rw [List.length_set]; exact h1, fun r' hr' => ?_⟩
    rcases List.mem_or_eq_of_mem_set hr' with h | h
    · have := h2 r' h; omega
    · rw [h, List.length_append, List.length_singleton]; omega
  · subst hc
    show M.sat (M.push s (M.ok ([] : (List Int))) >>= _) _
    rw [M.push_small (by omega), M.ok_bind, M.push_small (by rw [List.length_map, rngL_len]; omega), M.ok_bind, right_sides_true g (by omega) (by omega), M.ok_bind, M.ok_bind, if_neg (by decide)]
    exact M.sat_ok (by simp)
end
theorem rep_ok {ts : List T4I} (h : ts.length ≤ 100) : M.rep ts (25 : Int) = .ok ((List.replicate 25 ts).flatten) := by
  unfold M.rep
  rw [M.asrt_pos ⟨by decide, by decide, by
    show ts.length * 25 ≤ _
    exact Nat.le_trans (Nat.mul_le_mul_right 25 h) (by decide)⟩]
  rfl
theorem law_plain (s : List Int) (hs : s.length ≤ 63) : law_m ⟨s⟩ = .ok true := by
  refine M.sat_val ?_
  unfold law_m
  obtain ⟨c0, e0⟩ := cell_ok ⟨s⟩ (k := 0) (by decide)
  obtain ⟨c1, e1⟩ := cell_ok ⟨s⟩ (k := 1) (by decide)
  obtain ⟨c2, e2⟩ := cell_ok ⟨s⟩ (k := 2) (by decide)
  obtain ⟨d0, f0⟩ := draws_ok c0 (m := 60) (by decide) (by decide)
  obtain ⟨d1, f1⟩ := draws_ok c1 (m := 60) (by decide) (by decide)
  obtain ⟨d2, f2⟩ := draws_ok c2 (m := 3) (by decide) (by decide)
  rw [e0, M.ok_bind, f0, M.ok_bind]
  refine M.sat_bind (web_sat d0 (p := 7) (t := 12) (by decide) (by decide) (by decide) (by decide)) fun r ⟨g, h1, h2⟩ => ?_
  have h1 : r.1.length ≤ 7 := h1
  have h2 : r.2.length ≤ 12 := h2
  rw [e1, M.ok_bind, f1, M.ok_bind]
  refine M.sat_bind (web_sat d1 (p := 7) (t := 12) (by decide) (by decide) (by decide) (by decide)) fun r2 ⟨g2, k1, k2⟩ => ?_
  have k1 : r2.1.length ≤ 7 := k1
  have k2 : r2.2.length ≤ 12 := k2
  rw [e2, M.ok_bind, f2, M.ok_bind, pick_eq, M.ok_bind, M.ok_bind]
  refine M.sat_bind (R1 := fun ts => Good r.1 ts ∧ ts.length ≤ 300) (M.sat_if (fun _ => ?_) fun _ => M.sat_ok ⟨g, by omega⟩) fun ts ⟨gt, lt⟩ => ?_
  · rw [rep_ok (by omega), M.ok_bind]
    refine M.sat_ok ⟨⟨g.sd, fun x hx => g.ti x ?_⟩, ?_⟩
    · obtain ⟨l, hl, hx⟩ := List.mem_flatten.mp hx
      rw [(List.mem_replicate.mp hl).2] at hx
      exact hx
    · rw [List.length_flatten, List.map_replicate, List.sum_replicate_nat]
      omega
  rw [pick_eq, M.ok_bind, M.ok_bind]
  refine M.sat_bind (R1 := fun sd => Good sd ts ∧ sd.length ≤ 200) (M.sat_if (fun _ => ?_) fun _ => M.sat_ok ⟨gt, by omega⟩) fun sd ⟨gs, ls⟩ => ?_
  · have p1 := pick_range (d := d2) (k := 1) (m := 60) (by decide)
    have p2 := pick_range (d := d2) (k := 2) (m := 41) (by decide)
    simp only [pick_eq, M.ok_bind]
    generalize pick d2 1 60 = a at p1
    generalize pick d2 2 41 = b at p2
    rw [M.range_ok (by omega) (by omega), M.ok_bind, M.comp_map (fun _ => (2 : Int)), M.ok_bind]
    have hl : ((rngL 0 ((93 : Int) + a + b).toNat).map fun _ => (2 : Int)).length ≤ 192 := by rw [List.length_map, rngL_len]; omega
    generalize hq : (rngL 0 ((93 : Int) + a + b).toNat).map (fun _ => (2 : Int)) = q at hl
    rw [show M.cat r.1 q = .ok (r.1 ++ q) from M.asrt_pos (Nat.le_trans (show r.1.length + q.length ≤ 300 by omega) (by decide)), M.ok_bind]
    have lo : ∀ p : Int, 0 ≤ p → p < r.1.length → (r.1 ++ q).getD p.toNat 0 = r.1.getD p.toNat 0 := fun p h0 h1 => by
      rw [List.getD_eq_getElem?_getD, List.getElem?_append_left (by omega), ← List.getD_eq_getElem?_getD]
    refine M.sat_ok ⟨⟨fun x hx => ?_, fun x hx => ?_⟩, by rw [List.length_append]; omega⟩
    · rcases List.mem_append.mp hx with h | h
      · exact gt.sd x h
      · rw [← hq] at h
        obtain ⟨_, _, rfl⟩ := List.mem_map.mp h
        omega
    · obtain ⟨a1, a2, a3, a4, a5, a6, a7, a8⟩ := gt.ti x hx
      rw [lo _ a1 a2, lo _ a5 a6, List.length_append]
      exact ⟨a1, by omega, a3, a4, a5, by omega, a7, a8⟩
  rw [init_ok gs ls lt, M.ok_bind, init_ok g2 (by omega) (by omega), M.ok_bind, right_true gs ls lt, M.ok_bind, M.ok_bind, if_neg (by decide), right_true g2 (by omega) (by omega), M.ok_bind, if_pos rfl]
  exact M.sat_ok rfl
end K00

section
set_option maxHeartbeats 4000000
namespace K00
open PySem L2 G PM
/-! the text by places -/
def topS (i : Nat) : Stmt := PySem.Challenge.pw_comesapart_k00_ends_on_the_sides_of_plac.main.body.getD i (.Pass ⟨0, 0, 0, 0⟩)
abbrev s_l_cell : Stmt := topS 15
abbrev N_l_cell : List Str := ["_law_script", "_law_k"]
theorem sc_l_cell : FnScope N_l_cell ["_law_script", "_law_k"] (defScope s_l_cell) := ⟨rfl, rfl, rfl, by decide +kernel, rfl, by decide +kernel, by decide +kernel⟩
abbrev s_l_draws : Stmt := topS 16
abbrev N_l_draws : List Str := ["_law_cell_here", "_law_many", "_law_rest", "_law_exact", "_law_mixed", "_law_draws_here", "_law_k"]
theorem sc_l_draws : FnScope N_l_draws ["_law_cell_here", "_law_many"] (defScope s_l_draws) := ⟨rfl, rfl, rfl, by decide +kernel, rfl, by decide +kernel, by decide +kernel⟩
abbrev s_l_pick : Stmt := topS 17
abbrev N_l_pick : List Str := ["_law_draws_here", "_law_k", "_law_many"]
theorem sc_l_pick : FnScope N_l_pick ["_law_draws_here", "_law_k", "_law_many"] (defScope s_l_pick) := ⟨rfl, rfl, rfl, by decide +kernel, rfl, by decide +kernel, by decide +kernel⟩
abbrev s_l_web : Stmt := topS 18
abbrev N_l_web : List Str := ["_law_draws_here", "_law_most_places", "_law_most_ties", "_law_menu", "_law_many", "_law_k", "_law_sides", "_law_ties", "_law_at", "_law_one", "_law_other", "_law_side"]
theorem sc_l_web : FnScope N_l_web ["_law_draws_here", "_law_most_places", "_law_most_ties"] (defScope s_l_web) := ⟨rfl, rfl, rfl, by decide +kernel, rfl, by decide +kernel, by decide +kernel⟩
abbrev s_p_check_end : Stmt := topS 12
abbrev N_p_check_end : List Str := ["sides", "place", "side"]
theorem sc_p_check_end : FnScope N_p_check_end ["sides", "place", "side"] (defScope s_p_check_end) := ⟨rfl, rfl, rfl, by decide +kernel, rfl, by decide +kernel, by decide +kernel⟩
abbrev s_m_WebX_initX : Stmt := (clsB (topS 13)).getD 3 (.Pass ⟨0, 0, 0, 0⟩)
abbrev N_m_WebX_initX : List Str := ["self", "sides", "ties", "place", "many", "one", "side", "other", "far_side"]
theorem sc_m_WebX_initX : FnScope N_m_WebX_initX ["self", "sides", "ties"] (defScope s_m_WebX_initX) := ⟨rfl, rfl, rfl, by decide +kernel, rfl, by decide +kernel, by decide +kernel⟩
abbrev s_l_counts : Stmt := topS 20
abbrev N_l_counts : List Str := ["_law_sides", "_law_ties", "_law_counts_here", "_law_many", "_law_one", "_law_side", "_law_other", "_law_far_side", "_law_k"]
theorem sc_l_counts : FnScope N_l_counts ["_law_sides", "_law_ties"] (defScope s_l_counts) := ⟨rfl, rfl, rfl, by decide +kernel, rfl, by decide +kernel, by decide +kernel⟩
abbrev s_p_end_counts : Stmt := topS 2
abbrev N_p_end_counts : List Str := ["web", "counts", "one", "side", "other", "far_side", "many"]
theorem sc_p_end_counts : FnScope N_p_end_counts ["web"] (defScope s_p_end_counts) := ⟨rfl, rfl, rfl, by decide +kernel, rfl, by decide +kernel, by decide +kernel⟩
abbrev s_l_is_number : Stmt := topS 19
abbrev N_l_is_number : List Str := ["_law_told"]
theorem sc_l_is_number : FnScope N_l_is_number ["_law_told"] (defScope s_l_is_number) := ⟨rfl, rfl, rfl, by decide +kernel, rfl, by decide +kernel, by decide +kernel⟩
abbrev s_l_numbers : Stmt := topS 21
abbrev N_l_numbers : List Str := ["_law_told", "_law_due", "_law_k"]
theorem sc_l_numbers : FnScope N_l_numbers ["_law_told", "_law_due"] (defScope s_l_numbers) := ⟨rfl, rfl, rfl, by decide +kernel, rfl, by decide +kernel, by decide +kernel⟩
abbrev s_p_side_table : Stmt := topS 3
abbrev N_p_side_table : List Str := ["web", "rows", "place", "counts", "columns", "many"]
theorem sc_p_side_table : FnScope N_p_side_table ["web"] (defScope s_p_side_table) := ⟨rfl, rfl, rfl, by decide +kernel, rfl, by decide +kernel, by decide +kernel⟩
abbrev s_l_row : Stmt := topS 22
abbrev N_l_row : List Str := ["_law_place", "_law_counts_here", "_law_row_here", "_law_number", "_law_many"]
theorem sc_l_row : FnScope N_l_row ["_law_place", "_law_counts_here"] (defScope s_l_row) := ⟨rfl, rfl, rfl, by decide +kernel, rfl, by decide +kernel, by decide +kernel⟩
abbrev s_m_WebX_containsX : Stmt := (clsB (topS 13)).getD 11 (.Pass ⟨0, 0, 0, 0⟩)
abbrev N_m_WebX_containsX : List Str := ["self", "place"]
theorem sc_m_WebX_containsX : FnScope N_m_WebX_containsX ["self", "place"] (defScope s_m_WebX_containsX) := ⟨rfl, rfl, rfl, by decide +kernel, rfl, by decide +kernel, by decide +kernel⟩
abbrev s_m_Web_steps_from : Stmt := (clsB (topS 13)).getD 9 (.Pass ⟨0, 0, 0, 0⟩)
abbrev N_m_Web_steps_from : List Str := ["self", "place", "found", "tie", "one", "_", "other"]
theorem sc_m_Web_steps_from : FnScope N_m_Web_steps_from ["self", "place"] (defScope s_m_Web_steps_from) := ⟨rfl, rfl, rfl, by decide +kernel, rfl, by decide +kernel, by decide +kernel⟩
abbrev s_m_Web_tail : Stmt := (clsB (topS 13)).getD 7 (.Pass ⟨0, 0, 0, 0⟩)
abbrev N_m_Web_tail : List Str := ["self", "step", "tie", "direction", "one", "side", "other", "far_side"]
theorem sc_m_Web_tail : FnScope N_m_Web_tail ["self", "step"] (defScope s_m_Web_tail) := ⟨rfl, rfl, rfl, by decide +kernel, rfl, by decide +kernel, by decide +kernel⟩
abbrev s_m_Web_used_sides : Stmt := (clsB (topS 13)).getD 10 (.Pass ⟨0, 0, 0, 0⟩)
abbrev N_m_Web_used_sides : List Str := ["self", "place", "step"]
theorem sc_m_Web_used_sides : FnScope N_m_Web_used_sides ["self", "place"] (defScope s_m_Web_used_sides) := ⟨rfl, rfl, rfl, by decide +kernel, rfl, by decide +kernel, by decide +kernel⟩
abbrev s_l_refused : Stmt := topS 23
abbrev N_l_refused : List Str := ["_law_web_here", "_law_number", "e"]
theorem sc_l_refused : FnScope N_l_refused ["_law_web_here", "_law_number"] (defScope s_l_refused) := ⟨rfl, rfl, rfl, by decide +kernel, rfl, by decide +kernel, by decide +kernel⟩
abbrev s_m_Web_joints : Stmt := (clsB (topS 13)).getD 6 (.Pass ⟨0, 0, 0, 0⟩)
abbrev N_m_Web_joints : List Str := ["self", "place"]
theorem sc_m_Web_joints : FnScope N_m_Web_joints ["self"] (defScope s_m_Web_joints) := ⟨rfl, rfl, rfl, by decide +kernel, rfl, by decide +kernel, by decide +kernel⟩
abbrev s_l_right_sides : Stmt := topS 24
abbrev N_l_right_sides : List Str := ["_law_web_here", "_law_counts_here", "_law_joints", "_law_place", "_law_used", "_law_told", "_law_number", "_law_side"]
theorem sc_l_right_sides : FnScope N_l_right_sides ["_law_web_here", "_law_counts_here"] (defScope s_l_right_sides) := ⟨rfl, rfl, rfl, by decide +kernel, rfl, by decide +kernel, by decide +kernel⟩
abbrev s_l_right : Stmt := topS 25
abbrev N_l_right : List Str := ["_law_web_here", "_law_sides", "_law_ties", "_law_counts_here", "_law_told", "_law_place", "_law_rows"]
theorem sc_l_right : FnScope N_l_right ["_law_web_here", "_law_sides", "_law_ties"] (defScope s_l_right) := ⟨rfl, rfl, rfl, by decide +kernel, rfl, by decide +kernel, by decide +kernel⟩
abbrev s_law : Stmt := topS 26
abbrev N_law : List Str := ["_law_script", "_law_sides", "_law_ties", "_law_more_sides", "_law_more_ties", "_law_extra", "_law_first", "_law_second", "_law_k"]
theorem sc_law : FnScope N_law ["_law_script"] (defScope s_law) := ⟨rfl, rfl, rfl, by decide +kernel, rfl, by decide +kernel, by decide +kernel⟩
/-- what the top has written -/
structure Txt (K : PySem.W.Frag) (mg : Str → Option Value) where
  A : CA3
  b_ValueError : mg "ValueError" = none
  b_abs : mg "abs" = none
  b_bool : mg "bool" = none
  b_enumerate : mg "enumerate" = none
  b_int : mg "int" = none
  b_isinstance : mg "isinstance" = none
  b_len : mg "len" = none
  b_list : mg "list" = none
  b_range : mg "range" = none
  b_sorted : mg "sorted" = none
  b_str : mg "str" = none
  b_tuple : mg "tuple" = none
  digits : PySem.W.nsIn K PySem.cStatics "sys.int_max_str_digits" = some none
  g_BadSides : mg "BadSides" = some (.ref (A.tx .BadSides))
  g_ComesapartError : mg "ComesapartError" = some (.ref (A.tx .ComesapartError))
  g_TooLarge : mg "TooLarge" = some (.ref (A.tx .TooLarge))
  g_UnknownPlace : mg "UnknownPlace" = some (.ref (A.tx .UnknownPlace))
  g_UnknownSide : mg "UnknownSide" = some (.ref (A.tx .UnknownSide))
  g_UnknownTie : mg "UnknownTie" = some (.ref (A.tx .UnknownTie))
  g_Web : mg "Web" = some (.ref (A.ob .Web))
  c_Web : Cls K (A.ob .Web)
  n_Web_sides : NoAttr K (A.ob .Web) "sides"
  n_Web_ties : NoAttr K (A.ob .Web) "ties"
  u_Web_MOST_PLACES : Value
  k_Web_MOST_PLACES : Con K (A.ob .Web) "MOST_PLACES" (.int 200) u_Web_MOST_PLACES
  u_Web_MOST_SIDES : Value
  k_Web_MOST_SIDES : Con K (A.ob .Web) "MOST_SIDES" (.int 4) u_Web_MOST_SIDES
  u_Web_MOST_TIES : Value
  k_Web_MOST_TIES : Con K (A.ob .Web) "MOST_TIES" (.int 300) u_Web_MOST_TIES
  a_l_cell : Addr
  f_l_cell : FuncData
  F_l_cell : Fun K "_law_cell" "_law_cell" s_l_cell a_l_cell f_l_cell
  d_l_cell : Binds K f_l_cell ["_law_script", "_law_k"] []
  g_l_cell : mg "_law_cell" = some (.ref a_l_cell)
  a_l_draws : Addr
  f_l_draws : FuncData
  F_l_draws : Fun K "_law_draws" "_law_draws" s_l_draws a_l_draws f_l_draws
  d_l_draws : Binds K f_l_draws ["_law_cell_here", "_law_many"] []
  g_l_draws : mg "_law_draws" = some (.ref a_l_draws)
  a_l_pick : Addr
  f_l_pick : FuncData
  F_l_pick : Fun K "_law_pick" "_law_pick" s_l_pick a_l_pick f_l_pick
  d_l_pick : Binds K f_l_pick ["_law_draws_here", "_law_k", "_law_many"] []
  g_l_pick : mg "_law_pick" = some (.ref a_l_pick)
  a_l_web : Addr
  f_l_web : FuncData
  F_l_web : Fun K "_law_web" "_law_web" s_l_web a_l_web f_l_web
  d_l_web : Binds K f_l_web ["_law_draws_here", "_law_most_places", "_law_most_ties"] []
  g_l_web : mg "_law_web" = some (.ref a_l_web)
  a_p_check_end : Addr
  f_p_check_end : FuncData
  F_p_check_end : Fun K "check_end" "check_end" s_p_check_end a_p_check_end f_p_check_end
  d_p_check_end : Binds K f_p_check_end ["sides", "place", "side"] []
  g_p_check_end : mg "check_end" = some (.ref a_p_check_end)
  a_m_WebX_initX : Addr
  f_m_WebX_initX : FuncData
  F_m_WebX_initX : Fun K "__init__" "Web.__init__" s_m_WebX_initX a_m_WebX_initX f_m_WebX_initX
  d_m_WebX_initX : Binds K f_m_WebX_initX ["self", "sides", "ties"] []
  mk_Web : Mk K (A.ob .Web) a_m_WebX_initX
  a_l_counts : Addr
  f_l_counts : FuncData
  F_l_counts : Fun K "_law_counts" "_law_counts" s_l_counts a_l_counts f_l_counts
  d_l_counts : Binds K f_l_counts ["_law_sides", "_law_ties"] []
  g_l_counts : mg "_law_counts" = some (.ref a_l_counts)
  a_p_end_counts : Addr
  f_p_end_counts : FuncData
  F_p_end_counts : Fun K "end_counts" "end_counts" s_p_end_counts a_p_end_counts f_p_end_counts
  d_p_end_counts : Binds K f_p_end_counts ["web"] []
  g_p_end_counts : mg "end_counts" = some (.ref a_p_end_counts)
  a_l_is_number : Addr
  f_l_is_number : FuncData
  F_l_is_number : Fun K "_law_is_number" "_law_is_number" s_l_is_number a_l_is_number f_l_is_number
  d_l_is_number : Binds K f_l_is_number ["_law_told"] []
  g_l_is_number : mg "_law_is_number" = some (.ref a_l_is_number)
  a_l_numbers : Addr
  f_l_numbers : FuncData
  F_l_numbers : Fun K "_law_numbers" "_law_numbers" s_l_numbers a_l_numbers f_l_numbers
  d_l_numbers : Binds K f_l_numbers ["_law_told", "_law_due"] []
  g_l_numbers : mg "_law_numbers" = some (.ref a_l_numbers)
  a_p_side_table : Addr
  f_p_side_table : FuncData
  F_p_side_table : Fun K "side_table" "side_table" s_p_side_table a_p_side_table f_p_side_table
  d_p_side_table : Binds K f_p_side_table ["web"] []
  g_p_side_table : mg "side_table" = some (.ref a_p_side_table)
  a_l_row : Addr
  f_l_row : FuncData
  F_l_row : Fun K "_law_row" "_law_row" s_l_row a_l_row f_l_row
  d_l_row : Binds K f_l_row ["_law_place", "_law_counts_here"] []
  g_l_row : mg "_law_row" = some (.ref a_l_row)
  a_m_WebX_containsX : Addr
  f_m_WebX_containsX : FuncData
  F_m_WebX_containsX : Fun K "__contains__" "Web.__contains__" s_m_WebX_containsX a_m_WebX_containsX f_m_WebX_containsX
  d_m_WebX_containsX : Binds K f_m_WebX_containsX ["self", "place"] []
  me_m_WebX_containsX : Meth K (A.ob .Web) "__contains__" a_m_WebX_containsX
  a_m_Web_steps_from : Addr
  f_m_Web_steps_from : FuncData
  F_m_Web_steps_from : Fun K "steps_from" "Web.steps_from" s_m_Web_steps_from a_m_Web_steps_from f_m_Web_steps_from
  d_m_Web_steps_from : Binds K f_m_Web_steps_from ["self", "place"] []
  me_m_Web_steps_from : Meth K (A.ob .Web) "steps_from" a_m_Web_steps_from
  a_m_Web_tail : Addr
  f_m_Web_tail : FuncData
  F_m_Web_tail : Fun K "tail" "Web.tail" s_m_Web_tail a_m_Web_tail f_m_Web_tail
  d_m_Web_tail : Binds K f_m_Web_tail ["self", "step"] []
  me_m_Web_tail : Meth K (A.ob .Web) "tail" a_m_Web_tail
  a_m_Web_used_sides : Addr
  f_m_Web_used_sides : FuncData
  F_m_Web_used_sides : Fun K "used_sides" "Web.used_sides" s_m_Web_used_sides a_m_Web_used_sides f_m_Web_used_sides
  d_m_Web_used_sides : Binds K f_m_Web_used_sides ["self", "place"] []
  me_m_Web_used_sides : Meth K (A.ob .Web) "used_sides" a_m_Web_used_sides
  a_l_refused : Addr
  f_l_refused : FuncData
  F_l_refused : Fun K "_law_refused" "_law_refused" s_l_refused a_l_refused f_l_refused
  d_l_refused : Binds K f_l_refused ["_law_web_here", "_law_number"] []
  g_l_refused : mg "_law_refused" = some (.ref a_l_refused)
  a_m_Web_joints : Addr
  f_m_Web_joints : FuncData
  F_m_Web_joints : Fun K "joints" "Web.joints" s_m_Web_joints a_m_Web_joints f_m_Web_joints
  d_m_Web_joints : Binds K f_m_Web_joints ["self"] []
  q_m_Web_joints : Addr
  p_m_Web_joints : PropOf K (A.ob .Web) "joints" q_m_Web_joints a_m_Web_joints
  a_l_right_sides : Addr
  f_l_right_sides : FuncData
  F_l_right_sides : Fun K "_law_right_sides" "_law_right_sides" s_l_right_sides a_l_right_sides f_l_right_sides
  d_l_right_sides : Binds K f_l_right_sides ["_law_web_here", "_law_counts_here"] []
  g_l_right_sides : mg "_law_right_sides" = some (.ref a_l_right_sides)
  a_l_right : Addr
  f_l_right : FuncData
  F_l_right : Fun K "_law_right" "_law_right" s_l_right a_l_right f_l_right
  d_l_right : Binds K f_l_right ["_law_web_here", "_law_sides", "_law_ties"] []
  g_l_right : mg "_law_right" = some (.ref a_l_right)
  a_law : Addr
  f_law : FuncData
  F_law : Fun K "law" "law" s_law a_law f_law
  d_law : Binds K f_law ["_law_script"] []
  g_law : mg "law" = some (.ref a_law)
  i_BadSides : Addr
  fx_BadSides : FuncData
  x_BadSides : XCls K (A.tx .BadSides) i_BadSides
  dx_BadSides : Binds K fx_BadSides ["self", "place"] []
  i_TooLarge : Addr
  fx_TooLarge : FuncData
  x_TooLarge : XCls K (A.tx .TooLarge) i_TooLarge
  dx_TooLarge : Binds K fx_TooLarge ["self", "limit"] []
  i_UnknownPlace : Addr
  fx_UnknownPlace : FuncData
  x_UnknownPlace : XCls K (A.tx .UnknownPlace) i_UnknownPlace
  dx_UnknownPlace : Binds K fx_UnknownPlace ["self", "place"] []
  i_UnknownSide : Addr
  fx_UnknownSide : FuncData
  x_UnknownSide : XCls K (A.tx .UnknownSide) i_UnknownSide
  dx_UnknownSide : Binds K fx_UnknownSide ["self", "place", "side"] []
  i_UnknownTie : Addr
  fx_UnknownTie : FuncData
  x_UnknownTie : XCls K (A.tx .UnknownTie) i_UnknownTie
  dx_UnknownTie : Binds K fx_UnknownTie ["self", "tie"] []
  no_UnknownPlace_place : PySem.W.findIn K (.ref (A.tx .UnknownPlace)) "place" = some none
  xf_UnknownPlace : XfC K (A.tx .UnknownPlace)
  exc : ∀ c, kn c = true → ExcC K (A.tx c)
  hx_ComesapartError : ∀ c, kn c = true → PySem.W.exmOne K (.ref (A.tx c)) (.ref (A.tx .ComesapartError)) = some (XC.isA c .ComesapartError)
  kx_UnknownPlace : ∀ c, kn c = true → PySem.W.kitOne K (.ref (A.tx c)) (.ref (A.tx .UnknownPlace)) = some (XC.isA c .UnknownPlace)
  kx_ValueError : ∀ c, kn c = true → PySem.W.kitOne K (.ref (A.tx c)) (.type "ValueError") = some true
theorem hu64 {A : Around} {k : Nat} (hr : Room k A) : A.units + 64 < cLine := by have := hr.un; omega
def sp_l_cell (C : GCtx) (A : CA3) : Sp := fun vs H Q E => ∃ script : (Sq Int), ∃ k : Int, (l_cell_m script k).nb ∧ FnX C [.val (dSq (d := dInt)) script, .val dInt k] (fun c => ∃ r, c = .val dInt r ∧ (l_cell_m script k) = .ok r) (fun x => ∃ px, (l_cell_m script k) = .exc px ∧ x = px.x A.tx) vs H Q E
theorem sp_l_cell_len {C : GCtx} {A : CA3} {vs H Q E} (h : sp_l_cell C A vs H Q E) : vs.length = 2 := by obtain ⟨_, _, _, h⟩ := h; exact h.len
theorem hs_l_cell {C : GCtx} {A : CA3} : ∀ script k, (l_cell_m script k).nb → SpX C (sp_l_cell C A) [.val (dSq (d := dInt)) script, .val dInt k] (fun c => ∃ r, c = .val dInt r ∧ (l_cell_m script k) = .ok r) (fun x => ∃ px, (l_cell_m script k) = .exc px ∧ x = px.x A.tx) := fun script k nb vs H Q E h => ⟨script, k, nb, h⟩
def sp_l_draws (C : GCtx) (A : CA3) : Sp := fun vs H Q E => ∃ cell_here : Int, ∃ many : Int, (l_draws_m cell_here many).nb ∧ FnX C [.val dInt cell_here, .val dInt many] (fun c => ∃ r, c = .own (dList (d := dInt)) (oList (d := dInt)) none r ∧ (l_draws_m cell_here many) = .ok r) (fun x => ∃ px, (l_draws_m cell_here many) = .exc px ∧ x = px.x A.tx) vs H Q E
theorem sp_l_draws_len {C : GCtx} {A : CA3} {vs H Q E} (h : sp_l_draws C A vs H Q E) : vs.length = 2 := by obtain ⟨_, _, _, h⟩ := h; exact h.len
theorem hs_l_draws {C : GCtx} {A : CA3} : ∀ cell_here many, (l_draws_m cell_here many).nb → SpX C (sp_l_draws C A) [.val dInt cell_here, .val dInt many] (fun c => ∃ r, c = .own (dList (d := dInt)) (oList (d := dInt)) none r ∧ (l_draws_m cell_here many) = .ok r) (fun x => ∃ px, (l_draws_m cell_here many) = .exc px ∧ x = px.x A.tx) := fun cell_here many nb vs H Q E h => ⟨cell_here, many, nb, h⟩
def sp_l_pick (C : GCtx) (A : CA3) : Sp := fun vs H Q E => ∃ draws_here : (List Int), ∃ k : Int, ∃ many : Int, (l_pick_m draws_here k many).nb ∧ FnX C [.val (dList (d := dInt)) draws_here, .val dInt k, .val dInt many] (fun c => ∃ r, c = .val dInt r ∧ (l_pick_m draws_here k many) = .ok r) (fun x => ∃ px, (l_pick_m draws_here k many) = .exc px ∧ x = px.x A.tx) vs H Q E
theorem sp_l_pick_len {C : GCtx} {A : CA3} {vs H Q E} (h : sp_l_pick C A vs H Q E) : vs.length = 3 := by obtain ⟨_, _, _, _, h⟩ := h; exact h.len
theorem hs_l_pick {C : GCtx} {A : CA3} : ∀ draws_here k many, (l_pick_m draws_here k many).nb → SpX C (sp_l_pick C A) [.val (dList (d := dInt)) draws_here, .val dInt k, .val dInt many] (fun c => ∃ r, c = .val dInt r ∧ (l_pick_m draws_here k many) = .ok r) (fun x => ∃ px, (l_pick_m draws_here k many) = .exc px ∧ x = px.x A.tx) := fun draws_here k many nb vs H Q E h => ⟨draws_here, k, many, nb, h⟩
def sp_l_web (C : GCtx) (A : CA3) : Sp := fun vs H Q E => ∃ draws_here : (List Int), ∃ most_places : Int, ∃ most_ties : Int, (l_web_m draws_here most_places most_ties).nb ∧ FnX C [.val (dList (d := dInt)) draws_here, .val dInt most_places, .val dInt most_ties] (fun c => ∃ r, c = .own (dPair (d1 := (dList (d := dInt))) (d2 := (dList (d := (dT4 (d1 := dInt) (d2 := dInt) (d3 := dInt) (d4 := dInt)))))) (oPair (oList (d := dInt)) (oList (d := (dT4 (d1 := dInt) (d2 := dInt) (d3 := dInt) (d4 := dInt))))) none r ∧ (l_web_m draws_here most_places most_ties) = .ok r) (fun x => ∃ px, (l_web_m draws_here most_places most_ties) = .exc px ∧ x = px.x A.tx) vs H Q E
theorem sp_l_web_len {C : GCtx} {A : CA3} {vs H Q E} (h : sp_l_web C A vs H Q E) : vs.length = 3 := by obtain ⟨_, _, _, _, h⟩ := h; exact h.len
theorem hs_l_web {C : GCtx} {A : CA3} : ∀ draws_here most_places most_ties, (l_web_m draws_here most_places most_ties).nb → SpX C (sp_l_web C A) [.val (dList (d := dInt)) draws_here, .val dInt most_places, .val dInt most_ties] (fun c => ∃ r, c = .own (dPair (d1 := (dList (d := dInt))) (d2 := (dList (d := (dT4 (d1 := dInt) (d2 := dInt) (d3 := dInt) (d4 := dInt)))))) (oPair (oList (d := dInt)) (oList (d := (dT4 (d1 := dInt) (d2 := dInt) (d3 := dInt) (d4 := dInt))))) none r ∧ (l_web_m draws_here most_places most_ties) = .ok r) (fun x => ∃ px, (l_web_m draws_here most_places most_ties) = .exc px ∧ x = px.x A.tx) := fun draws_here most_places most_ties nb vs H Q E h => ⟨draws_here, most_places, most_ties, nb, h⟩
def sp_p_check_end (C : GCtx) (A : CA3) : Sp := fun vs H Q E => ∃ sides : (List Int), ∃ place : Int, ∃ side : Int, (p_check_end_m sides place side).nb ∧ FnX C [.val (dList (d := dInt)) sides, .val dInt place, .val dInt side] (fun c => ∃ r, c = .val dUnit r ∧ (p_check_end_m sides place side) = .ok r) (fun x => ∃ px, (p_check_end_m sides place side) = .exc px ∧ x = px.x A.tx) vs H Q E
theorem sp_p_check_end_len {C : GCtx} {A : CA3} {vs H Q E} (h : sp_p_check_end C A vs H Q E) : vs.length = 3 := by obtain ⟨_, _, _, _, h⟩ := h; exact h.len
theorem hs_p_check_end {C : GCtx} {A : CA3} : ∀ sides place side, (p_check_end_m sides place side).nb → SpX C (sp_p_check_end C A) [.val (dList (d := dInt)) sides, .val dInt place, .val dInt side] (fun c => ∃ r, c = .val dUnit r ∧ (p_check_end_m sides place side) = .ok r) (fun x => ∃ px, (p_check_end_m sides place side) = .exc px ∧ x = px.x A.tx) := fun sides place side nb vs H Q E h => ⟨sides, place, side, nb, h⟩
def sp_m_WebX_initX (C : GCtx) (A : CA3) : Sp := fun vs H Q E => ∃ sides : (List Int), ∃ ties : (List (T4 Int Int Int Int)), (m_WebX_initX_m sides ties).nb ∧ FnI C (oWeb A) (A.ob .Web) [.val (dList (d := dInt)) sides, .val (dList (d := (dT4 (d1 := dInt) (d2 := dInt) (d3 := dInt) (d4 := dInt)))) ties] (fun r => (m_WebX_initX_m sides ties) = .ok r) (fun x => ∃ px, (m_WebX_initX_m sides ties) = .exc px ∧ x = px.x A.tx) vs H Q E
theorem sp_m_WebX_initX_len {C : GCtx} {A : CA3} {vs H Q E} (h : sp_m_WebX_initX C A vs H Q E) : vs.length = 3 := by obtain ⟨_, _, _, h⟩ := h; exact h.len
theorem hs_m_WebX_initX {C : GCtx} {A : CA3} : ∀ sides ties, (m_WebX_initX_m sides ties).nb → SpI C (sp_m_WebX_initX C A) (oWeb A) (A.ob .Web) [.val (dList (d := dInt)) sides, .val (dList (d := (dT4 (d1 := dInt) (d2 := dInt) (d3 := dInt) (d4 := dInt)))) ties] (fun r => (m_WebX_initX_m sides ties) = .ok r) (fun x => ∃ px, (m_WebX_initX_m sides ties) = .exc px ∧ x = px.x A.tx) := fun sides ties nb vs H Q E h => ⟨sides, ties, nb, h⟩
def sp_l_counts (C : GCtx) (A : CA3) : Sp := fun vs H Q E => ∃ sides : (List Int), ∃ ties : (List (T4 Int Int Int Int)), (l_counts_m sides ties).nb ∧ FnX C [.val (dList (d := dInt)) sides, .val (dList (d := (dT4 (d1 := dInt) (d2 := dInt) (d3 := dInt) (d4 := dInt)))) ties] (fun c => ∃ r, c = .own (dList (d := (dList (d := dInt)))) (oDeep (oList (d := dInt))) none r ∧ (l_counts_m sides ties) = .ok r) (fun x => ∃ px, (l_counts_m sides ties) = .exc px ∧ x = px.x A.tx) vs H Q E
theorem sp_l_counts_len {C : GCtx} {A : CA3} {vs H Q E} (h : sp_l_counts C A vs H Q E) : vs.length = 2 := by obtain ⟨_, _, _, h⟩ := h; exact h.len
theorem hs_l_counts {C : GCtx} {A : CA3} : ∀ sides ties, (l_counts_m sides ties).nb → SpX C (sp_l_counts C A) [.val (dList (d := dInt)) sides, .val (dList (d := (dT4 (d1 := dInt) (d2 := dInt) (d3 := dInt) (d4 := dInt)))) ties] (fun c => ∃ r, c = .own (dList (d := (dList (d := dInt)))) (oDeep (oList (d := dInt))) none r ∧ (l_counts_m sides ties) = .ok r) (fun x => ∃ px, (l_counts_m sides ties) = .exc px ∧ x = px.x A.tx) := fun sides ties nb vs H Q E h => ⟨sides, ties, nb, h⟩
def sp_p_end_counts (C : GCtx) (A : CA3) : Sp := fun vs H Q E => ∃ web : WebM, (p_end_counts_m web).nb ∧ FnX C [.val (dWeb A) web] (fun c => ∃ r, c = .own (dList (d := (dList (d := dInt)))) (oDeep (oList (d := dInt))) none r ∧ (p_end_counts_m web) = .ok r) (fun x => ∃ px, (p_end_counts_m web) = .exc px ∧ x = px.x A.tx) vs H Q E
theorem sp_p_end_counts_len {C : GCtx} {A : CA3} {vs H Q E} (h : sp_p_end_counts C A vs H Q E) : vs.length = 1 := by obtain ⟨_, _, h⟩ := h; exact h.len
theorem hs_p_end_counts {C : GCtx} {A : CA3} : ∀ web, (p_end_counts_m web).nb → SpX C (sp_p_end_counts C A) [.val (dWeb A) web] (fun c => ∃ r, c = .own (dList (d := (dList (d := dInt)))) (oDeep (oList (d := dInt))) none r ∧ (p_end_counts_m web) = .ok r) (fun x => ∃ px, (p_end_counts_m web) = .exc px ∧ x = px.x A.tx) := fun web nb vs H Q E h => ⟨web, nb, h⟩
def sp_l_is_number (C : GCtx) (A : CA3) : Sp := fun vs H Q E => ∃ told : Int, (l_is_number_m told).nb ∧ FnX C [.val dInt told] (fun c => ∃ r, c = .val dBool r ∧ (l_is_number_m told) = .ok r) (fun x => ∃ px, (l_is_number_m told) = .exc px ∧ x = px.x A.tx) vs H Q E
theorem sp_l_is_number_len {C : GCtx} {A : CA3} {vs H Q E} (h : sp_l_is_number C A vs H Q E) : vs.length = 1 := by obtain ⟨_, _, h⟩ := h; exact h.len
theorem hs_l_is_number {C : GCtx} {A : CA3} : ∀ told, (l_is_number_m told).nb → SpX C (sp_l_is_number C A) [.val dInt told] (fun c => ∃ r, c = .val dBool r ∧ (l_is_number_m told) = .ok r) (fun x => ∃ px, (l_is_number_m told) = .exc px ∧ x = px.x A.tx) := fun told nb vs H Q E h => ⟨told, nb, h⟩
def sp_l_numbers (C : GCtx) (A : CA3) : Sp := fun vs H Q E => ∃ told : (List Int), ∃ due : (List Int), (l_numbers_m told due).nb ∧ FnX C [.val (dList (d := dInt)) told, .val (dList (d := dInt)) due] (fun c => ∃ r, c = .val dBool r ∧ (l_numbers_m told due) = .ok r) (fun x => ∃ px, (l_numbers_m told due) = .exc px ∧ x = px.x A.tx) vs H Q E
theorem sp_l_numbers_len {C : GCtx} {A : CA3} {vs H Q E} (h : sp_l_numbers C A vs H Q E) : vs.length = 2 := by obtain ⟨_, _, _, h⟩ := h; exact h.len
theorem hs_l_numbers {C : GCtx} {A : CA3} : ∀ told due, (l_numbers_m told due).nb → SpX C (sp_l_numbers C A) [.val (dList (d := dInt)) told, .val (dList (d := dInt)) due] (fun c => ∃ r, c = .val dBool r ∧ (l_numbers_m told due) = .ok r) (fun x => ∃ px, (l_numbers_m told due) = .exc px ∧ x = px.x A.tx) := fun told due nb vs H Q E h => ⟨told, due, nb, h⟩
def sp_p_side_table (C : GCtx) (A : CA3) : Sp := fun vs H Q E => ∃ web : WebM, (p_side_table_m web).nb ∧ FnX C [.val (dWeb A) web] (fun c => ∃ r, c = .own (dList (d := dStr)) (oList (d := dStr)) none r ∧ (p_side_table_m web) = .ok r) (fun x => ∃ px, (p_side_table_m web) = .exc px ∧ x = px.x A.tx) vs H Q E
theorem sp_p_side_table_len {C : GCtx} {A : CA3} {vs H Q E} (h : sp_p_side_table C A vs H Q E) : vs.length = 1 := by obtain ⟨_, _, h⟩ := h; exact h.len
theorem hs_p_side_table {C : GCtx} {A : CA3} : ∀ web, (p_side_table_m web).nb → SpX C (sp_p_side_table C A) [.val (dWeb A) web] (fun c => ∃ r, c = .own (dList (d := dStr)) (oList (d := dStr)) none r ∧ (p_side_table_m web) = .ok r) (fun x => ∃ px, (p_side_table_m web) = .exc px ∧ x = px.x A.tx) := fun web nb vs H Q E h => ⟨web, nb, h⟩
def sp_l_row (C : GCtx) (A : CA3) : Sp := fun vs H Q E => ∃ place : Int, ∃ counts_here : (List Int), (l_row_m place counts_here).nb ∧ FnX C [.val dInt place, .val (dList (d := dInt)) counts_here] (fun c => ∃ r, c = .val dStr r ∧ (l_row_m place counts_here) = .ok r) (fun x => ∃ px, (l_row_m place counts_here) = .exc px ∧ x = px.x A.tx) vs H Q E
theorem sp_l_row_len {C : GCtx} {A : CA3} {vs H Q E} (h : sp_l_row C A vs H Q E) : vs.length = 2 := by obtain ⟨_, _, _, h⟩ := h; exact h.len
theorem hs_l_row {C : GCtx} {A : CA3} : ∀ place counts_here, (l_row_m place counts_here).nb → SpX C (sp_l_row C A) [.val dInt place, .val (dList (d := dInt)) counts_here] (fun c => ∃ r, c = .val dStr r ∧ (l_row_m place counts_here) = .ok r) (fun x => ∃ px, (l_row_m place counts_here) = .exc px ∧ x = px.x A.tx) := fun place counts_here nb vs H Q E h => ⟨place, counts_here, nb, h⟩
def sp_m_WebX_containsX (C : GCtx) (A : CA3) : Sp := fun vs H Q E => ∃ self : WebM, ∃ place : Int, (m_WebX_containsX_m self place).nb ∧ FnX C [.val (dWeb A) self, .val dInt place] (fun c => ∃ r, c = .val dBool r ∧ (m_WebX_containsX_m self place) = .ok r) (fun x => ∃ px, (m_WebX_containsX_m self place) = .exc px ∧ x = px.x A.tx) vs H Q E
theorem sp_m_WebX_containsX_len {C : GCtx} {A : CA3} {vs H Q E} (h : sp_m_WebX_containsX C A vs H Q E) : vs.length = 2 := by obtain ⟨_, _, _, h⟩ := h; exact h.len
theorem hs_m_WebX_containsX {C : GCtx} {A : CA3} : ∀ self place, (m_WebX_containsX_m self place).nb → SpX C (sp_m_WebX_containsX C A) [.val (dWeb A) self, .val dInt place] (fun c => ∃ r, c = .val dBool r ∧ (m_WebX_containsX_m self place) = .ok r) (fun x => ∃ px, (m_WebX_containsX_m self place) = .exc px ∧ x = px.x A.tx) := fun self place nb vs H Q E h => ⟨self, place, nb, h⟩
def sp_m_Web_steps_from (C : GCtx) (A : CA3) : Sp := fun vs H Q E => ∃ self : WebM, ∃ place : Int, (m_Web_steps_from_m self place).nb ∧ FnX C [.val (dWeb A) self, .val dInt place] (fun c => ∃ r, c = .own (dList (d := (dPair (d1 := dInt) (d2 := dInt)))) (oList (d := (dPair (d1 := dInt) (d2 := dInt)))) none r ∧ (m_Web_steps_from_m self place) = .ok r) (fun x => ∃ px, (m_Web_steps_from_m self place) = .exc px ∧ x = px.x A.tx) vs H Q E
theorem sp_m_Web_steps_from_len {C : GCtx} {A : CA3} {vs H Q E} (h : sp_m_Web_steps_from C A vs H Q E) : vs.length = 2 := by obtain ⟨_, _, _, h⟩ := h; exact h.len
theorem hs_m_Web_steps_from {C : GCtx} {A : CA3} : ∀ self place, (m_Web_steps_from_m self place).nb → SpX C (sp_m_Web_steps_from C A) [.val (dWeb A) self, .val dInt place] (fun c => ∃ r, c = .own (dList (d := (dPair (d1 := dInt) (d2 := dInt)))) (oList (d := (dPair (d1 := dInt) (d2 := dInt)))) none r ∧ (m_Web_steps_from_m self place) = .ok r) (fun x => ∃ px, (m_Web_steps_from_m self place) = .exc px ∧ x = px.x A.tx) := fun self place nb vs H Q E h => ⟨self, place, nb, h⟩
def sp_m_Web_tail (C : GCtx) (A : CA3) : Sp := fun vs H Q E => ∃ self : WebM, ∃ step : (Int × Int), (m_Web_tail_m self step).nb ∧ FnX C [.val (dWeb A) self, .val (dPair (d1 := dInt) (d2 := dInt)) step] (fun c => ∃ r, c = .val (dPair (d1 := dInt) (d2 := dInt)) r ∧ (m_Web_tail_m self step) = .ok r) (fun x => ∃ px, (m_Web_tail_m self step) = .exc px ∧ x = px.x A.tx) vs H Q E
theorem sp_m_Web_tail_len {C : GCtx} {A : CA3} {vs H Q E} (h : sp_m_Web_tail C A vs H Q E) : vs.length = 2 := by obtain ⟨_, _, _, h⟩ := h; exact h.len
theorem hs_m_Web_tail {C : GCtx} {A : CA3} : ∀ self step, (m_Web_tail_m self step).nb → SpX C (sp_m_Web_tail C A) [.val (dWeb A) self, .val (dPair (d1 := dInt) (d2 := dInt)) step] (fun c => ∃ r, c = .val (dPair (d1 := dInt) (d2 := dInt)) r ∧ (m_Web_tail_m self step) = .ok r) (fun x => ∃ px, (m_Web_tail_m self step) = .exc px ∧ x = px.x A.tx) := fun self step nb vs H Q E h => ⟨self, step, nb, h⟩
def sp_m_Web_used_sides (C : GCtx) (A : CA3) : Sp := fun vs H Q E => ∃ self : WebM, ∃ place : Int, (m_Web_used_sides_m self place).nb ∧ FnX C [.val (dWeb A) self, .val dInt place] (fun c => ∃ r, c = .own (dList (d := dInt)) (oList (d := dInt)) none r ∧ (m_Web_used_sides_m self place) = .ok r) (fun x => ∃ px, (m_Web_used_sides_m self place) = .exc px ∧ x = px.x A.tx) vs H Q E
theorem sp_m_Web_used_sides_len {C : GCtx} {A : CA3} {vs H Q E} (h : sp_m_Web_used_sides C A vs H Q E) : vs.length = 2 := by obtain ⟨_, _, _, h⟩ := h; exact h.len
theorem hs_m_Web_used_sides {C : GCtx} {A : CA3} : ∀ self place, (m_Web_used_sides_m self place).nb → SpX C (sp_m_Web_used_sides C A) [.val (dWeb A) self, .val dInt place] (fun c => ∃ r, c = .own (dList (d := dInt)) (oList (d := dInt)) none r ∧ (m_Web_used_sides_m self place) = .ok r) (fun x => ∃ px, (m_Web_used_sides_m self place) = .exc px ∧ x = px.x A.tx) := fun self place nb vs H Q E h => ⟨self, place, nb, h⟩
def sp_l_refused (C : GCtx) (A : CA3) : Sp := fun vs H Q E => ∃ web_here : WebM, ∃ number : Int, (l_refused_m web_here number).nb ∧ FnX C [.val (dWeb A) web_here, .val dInt number] (fun c => ∃ r, c = .val dBool r ∧ (l_refused_m web_here number) = .ok r) (fun x => ∃ px, (l_refused_m web_here number) = .exc px ∧ x = px.x A.tx) vs H Q E
theorem sp_l_refused_len {C : GCtx} {A : CA3} {vs H Q E} (h : sp_l_refused C A vs H Q E) : vs.length = 2 := by obtain ⟨_, _, _, h⟩ := h; exact h.len
theorem hs_l_refused {C : GCtx} {A : CA3} : ∀ web_here number, (l_refused_m web_here number).nb → SpX C (sp_l_refused C A) [.val (dWeb A) web_here, .val dInt number] (fun c => ∃ r, c = .val dBool r ∧ (l_refused_m web_here number) = .ok r) (fun x => ∃ px, (l_refused_m web_here number) = .exc px ∧ x = px.x A.tx) := fun web_here number nb vs H Q E h => ⟨web_here, number, nb, h⟩
def sp_m_Web_joints (C : GCtx) (A : CA3) : Sp := fun vs H Q E => ∃ self : WebM, (m_Web_joints_m self).nb ∧ FnX C [.val (dWeb A) self] (fun c => ∃ r, c = .val (dTup (d := dInt)) r ∧ (m_Web_joints_m self) = .ok r) (fun x => ∃ px, (m_Web_joints_m self) = .exc px ∧ x = px.x A.tx) vs H Q E
theorem sp_m_Web_joints_len {C : GCtx} {A : CA3} {vs H Q E} (h : sp_m_Web_joints C A vs H Q E) : vs.length = 1 := by obtain ⟨_, _, h⟩ := h; exact h.len
theorem hs_m_Web_joints {C : GCtx} {A : CA3} : ∀ self, (m_Web_joints_m self).nb → SpX C (sp_m_Web_joints C A) [.val (dWeb A) self] (fun c => ∃ r, c = .val (dTup (d := dInt)) r ∧ (m_Web_joints_m self) = .ok r) (fun x => ∃ px, (m_Web_joints_m self) = .exc px ∧ x = px.x A.tx) := fun self nb vs H Q E h => ⟨self, nb, h⟩
def sp_l_right_sides (C : GCtx) (A : CA3) : Sp := fun vs H Q E => ∃ web_here : WebM, ∃ counts_here : (List (List Int)), (l_right_sides_m web_here counts_here).nb ∧ FnX C [.val (dWeb A) web_here, .val (dList (d := (dList (d := dInt)))) counts_here] (fun c => ∃ r, c = .val dBool r ∧ (l_right_sides_m web_here counts_here) = .ok r) (fun x => ∃ px, (l_right_sides_m web_here counts_here) = .exc px ∧ x = px.x A.tx) vs H Q E
theorem sp_l_right_sides_len {C : GCtx} {A : CA3} {vs H Q E} (h : sp_l_right_sides C A vs H Q E) : vs.length = 2 := by obtain ⟨_, _, _, h⟩ := h; exact h.len
theorem hs_l_right_sides {C : GCtx} {A : CA3} : ∀ web_here counts_here, (l_right_sides_m web_here counts_here).nb → SpX C (sp_l_right_sides C A) [.val (dWeb A) web_here, .val (dList (d := (dList (d := dInt)))) counts_here] (fun c => ∃ r, c = .val dBool r ∧ (l_right_sides_m web_here counts_here) = .ok r) (fun x => ∃ px, (l_right_sides_m web_here counts_here) = .exc px ∧ x = px.x A.tx) := fun web_here counts_here nb vs H Q E h => ⟨web_here, counts_here, nb, h⟩
def sp_l_right (C : GCtx) (A : CA3) : Sp := fun vs H Q E => ∃ web_here : WebM, ∃ sides : (List Int), ∃ ties : (List (T4 Int Int Int Int)), (l_right_m web_here sides ties).nb ∧ FnX C [.val (dWeb A) web_here, .val (dList (d := dInt)) sides, .val (dList (d := (dT4 (d1 := dInt) (d2 := dInt) (d3 := dInt) (d4 := dInt)))) ties] (fun c => ∃ r, c = .val dBool r ∧ (l_right_m web_here sides ties) = .ok r) (fun x => ∃ px, (l_right_m web_here sides ties) = .exc px ∧ x = px.x A.tx) vs H Q E
theorem sp_l_right_len {C : GCtx} {A : CA3} {vs H Q E} (h : sp_l_right C A vs H Q E) : vs.length = 3 := by obtain ⟨_, _, _, _, h⟩ := h; exact h.len
theorem hs_l_right {C : GCtx} {A : CA3} : ∀ web_here sides ties, (l_right_m web_here sides ties).nb → SpX C (sp_l_right C A) [.val (dWeb A) web_here, .val (dList (d := dInt)) sides, .val (dList (d := (dT4 (d1 := dInt) (d2 := dInt) (d3 := dInt) (d4 := dInt)))) ties] (fun c => ∃ r, c = .val dBool r ∧ (l_right_m web_here sides ties) = .ok r) (fun x => ∃ px, (l_right_m web_here sides ties) = .exc px ∧ x = px.x A.tx) := fun web_here sides ties nb vs H Q E h => ⟨web_here, sides, ties, nb, h⟩
def sp_law (C : GCtx) : Sp := fun vs H Q _ => ∃ s : Sq Int, law_m s = .ok true ∧ Fn C [.val (dSq (d := dInt)) s] (fun c => c = .val dBool true) vs H Q
theorem sp_law_len {C : GCtx} {vs H Q E} (h : sp_law C vs H Q E) : vs.length = 1 := by obtain ⟨_, _, h⟩ := h; exact h.len
end K00
end

namespace K00
open PySem L2 G PM
set_option maxHeartbeats 4000000 in
theorem ok_l_cell {P : Program} {w : World} {K : PySem.W.Frag} {mg : Str → Option Value} {base : Heap} (T : Txt K mg) : FnOk P w K mg base (L2.CX P w) 1 T.a_l_cell T.f_l_cell ["_law_script", "_law_k"] (sp_l_cell ⟨P, w, K⟩ T.A) := by
  have nd := sc_l_cell.nd
  refine T.F_l_cell.okX sc_l_cell (fun vs H Q E h => ?_) (fun cdv A outer s H vs Q E hr h => ?_)
  · exact sp_l_cell_len h
  have hu := hu_of hr
  refine ⟨_, (pss_cons (ps_if (pt_cmpR op_lt (pv 1) (pe_callB (len_K K) (by rfl) T.b_len (by decide +kernel) (pa_cons (pv 0) pa_nil)) (nomark _))
        (pss_one (ps_ret (pe_ix (ix_qK K) (pv 0) (pv 1) (fun _ _ => rfl))))
        pss_nil)
      (pss_one (ps_ret pe_int))), ?_⟩
  try dsimp only [cxOf]
  obtain ⟨script, k, nb, h⟩ := h
  refine Zm.body (js := [0, 1]) (m := l_cell_m script k) nb h ?_
  refine zm_to (Γ2 := [(.val (dSq (d := dInt)) script), (.val dInt k)]) rfl ?_
  delta l_cell_m
  refine zm_ifP (te_eq (te_test (we_lt (re_w (we_var rfl)) (re_w (we_lenQ (re_w (we_var rfl)))))) rfl) ?_ ?_
  · exact zm_ret (we_eq (we_ixQ (we_var rfl) (re_w (we_var rfl))) rfl)
  · refine zm_skip ?_
    refine zm_last ?_
    exact zm_ret (we_eq we_int rfl)
end K00

namespace K00
open PySem L2 G PM
set_option maxHeartbeats 4000000 in
theorem ok_l_draws {P : Program} {w : World} {K : PySem.W.Frag} {mg : Str → Option Value} {base : Heap} (T : Txt K mg) : FnOk P w K mg base (L2.CX P w) 1 T.a_l_draws T.f_l_draws ["_law_cell_here", "_law_many"] (sp_l_draws ⟨P, w, K⟩ T.A) := by
  have nd := sc_l_draws.nd
  refine T.F_l_draws.okX sc_l_draws (fun vs H Q E h => ?_) (fun cdv A outer s H vs Q E hr h => ?_)
  · exact sp_l_draws_len h
  have hu := hu_of hr
  refine ⟨_, (pss_cons (ps_set (i := 2) nd rfl (Or.inl rfl) (pe_callB call_abs (by rfl) T.b_abs (by decide +kernel) (pa_cons (pe_callTy call_int1 (by rfl) T.b_int (by decide +kernel) (pa_cons (pv 0) pa_nil)) pa_nil)))
      (pss_cons (ps_set (i := 3) nd rfl (Or.inl rfl) (pe_cmpR op_ge (pv 2) (pe_op op_pow pe_int pe_int) (nomark _)))
      (pss_cons (ps_set (i := 4) nd rfl (Or.inl rfl) (pe_op op_add (pe_op op_mod (pe_callTy call_int1 (by rfl) T.b_int (by decide +kernel) (pa_cons (pv 2) pa_nil)) pe_int) pe_int))
      (pss_cons (ps_set (i := 5) nd rfl (Or.inl rfl) (pe_lst pa_nil))
      (pss_cons (ps_for (passes_of rfl) rfl (pi_range1 (by rfl) T.b_range (pa_cons (pv 1) pa_nil)) (pg_name (i := 6) nd rfl (Or.inl rfl))
        (pss_cons (ps_set (i := 4) nd rfl (Or.inl rfl) (pe_op op_mod (pe_callTy call_int1 (by rfl) T.b_int (by decide +kernel) (pa_cons (pe_op op_add (pe_op op_add (pe_op op_mul (pv 4) pe_int) (pe_op op_mul pe_int (pv 6))) pe_int) pa_nil)) pe_int))
      (pss_one (ps_if (PW.pt (pw_and (pt_val (pv 3)) (pw_and1 (pt_cmpR op_gt (pv 2) pe_int (nomark _)))))
        (pss_cons (ps_expr (bm_K K PySem.F.plainAttrs_list PySem.F.slot_list_append PySem.F.type_list_append mt_append (pv 5) (pa_cons (pe_op op_mod (pe_callTy call_int1 (by rfl) T.b_int (by decide +kernel) (pa_cons (pv 2) pa_nil)) pe_int) pa_nil)))
      (pss_one (ps_set (i := 2) nd rfl (Or.inl rfl) (pe_op op_fdiv (pv 2) pe_int))))
        (pss_one (ps_expr (bm_K K PySem.F.plainAttrs_list PySem.F.slot_list_append PySem.F.type_list_append mt_append (pv 5) (pa_cons (pe_op op_mod (pe_op op_fdiv (pv 4) pe_int) pe_int) pa_nil))))))))
      (pss_one (ps_ret (pv 5)))))))), ?_⟩
  try dsimp only [cxOf]
  obtain ⟨cell_here, many, nb, h⟩ := h
  refine Zm.body (js := [0, 1, 2, 3, 4, 5, 6]) (m := l_draws_m cell_here many) nb h ?_
  refine zm_to (Γ2 := [(.val dInt cell_here), (.val dInt many), .no, .no, .no, .no, .no]) rfl ?_
  delta l_draws_m
  refine zm_set (i := 2) rfl (by decide) (we_eq (we_abs (re_w (we_int1 (re_w (we_var rfl))))) rfl) fun rest_1 => ?_
  refine zm_set (i := 3) rfl (by decide) (we_eq (we_ge (re_w (we_var rfl)) (re_w (we_powC (c := 1000000000000000000) (re_w we_int) (re_w we_int) (by decide)))) rfl) fun exact_2 => ?_
  refine zm_set (i := 4) rfl (by decide) (we_eq (we_add (re_w (we_modC (re_w (we_int1 (re_w (we_var rfl)))) (re_w we_int))) (re_w we_int)) rfl) fun mixed_3 => ?_
  refine zm_setO (i := 5) rfl (by decide) (oe_eq (oe_lst0 (d := dInt)) rfl) fun draws_here_4 => ?_
  refine zm_for [6] (fun s5 => [(.val dInt cell_here), (.val dInt many), (.val dInt s5.1), (.val dBool exact_2), (.val dInt s5.2.1), (.own (dList (d := dInt)) (oList (d := dInt)) none s5.2.2), .no]) (rest_1, mixed_3, draws_here_4) (wlen 7 (by exact rfl) (by exact rfl) (by decide)) rfl (fun _ => (wlen 7 (by exact rfl) (by exact rfl) (by decide))) (ie_eq (ie_range (re_w (we_var rfl))) rfl) (fun s5 x6 => (a_name rfl ⟨(wlen 7 (by exact rfl) (by exact rfl) (by decide)), ?_⟩)) fun s11 => ?_
  · refine zm_set (i := 4) rfl (by decide) (we_eq (we_modC (re_w (we_int1 (re_w (we_add (re_w (we_add (re_w (we_mulCr (re_w (we_var rfl)) (re_w we_int))) (re_w (we_mulCl (re_w we_int) (re_w (we_var rfl)))))) (re_w we_int))))) (re_w we_int)) rfl) fun mixed_7 => ?_
    refine zm_last ?_
    refine zm_ifP (te_eq (te_andP (te_B (we_var rfl)) (te_test (we_gt (re_w (we_var rfl)) (re_w we_int)))) rfl) ?_ ?_
    · refine zm_assoc ?_
      refine zm_append (i := 5) rfl (by decide) (we_eq (we_modC (re_w (we_int1 (re_w (we_var rfl)))) (re_w we_int)) rfl) fun draws_here_8 => ?_
      refine zm_set (i := 2) rfl (by decide) (we_eq (we_fdivC (re_w (we_var rfl)) (re_w we_int)) rfl) fun rest_9 => ?_
      exact zm_nextL rfl
    · refine zm_append (i := 5) rfl (by decide) (we_eq (we_modC (re_w (we_fdivC (re_w (we_var rfl)) (re_w we_int))) (re_w we_int)) rfl) fun draws_here_10 => ?_
      exact zm_nextL rfl
  · refine zm_last ?_
    exact zm_retV rfl
end K00

namespace K00
open PySem L2 G PM
set_option maxHeartbeats 4000000 in
theorem ok_l_pick {P : Program} {w : World} {K : PySem.W.Frag} {mg : Str → Option Value} {base : Heap} (T : Txt K mg) : FnOk P w K mg base (L2.CX P w) 1 T.a_l_pick T.f_l_pick ["_law_draws_here", "_law_k", "_law_many"] (sp_l_pick ⟨P, w, K⟩ T.A) := by
  have nd := sc_l_pick.nd
  refine T.F_l_pick.okX sc_l_pick (fun vs H Q E h => ?_) (fun cdv A outer s H vs Q E hr h => ?_)
  · exact sp_l_pick_len h
  have hu := hu_of hr
  refine ⟨_, (pss_cons (ps_if (PW.pt (pw_or (pt_cmpR op_lt (pv 2) pe_int (nomark _)) (pw_or1 (pt_cmpR op_eq (pe_callB (len_K K) (by rfl) T.b_len (by decide +kernel) (pa_cons (pv 0) pa_nil)) pe_int (nomark _)))))
        (pss_one (ps_ret pe_int))
        pss_nil)
      (pss_one (ps_ret (pe_op op_mod (pe_callTy call_int1 (by rfl) T.b_int (by decide +kernel) (pa_cons (pe_ix (ix_lK K) (pv 0) (pe_op op_mod (pe_callTy call_int1 (by rfl) T.b_int (by decide +kernel) (pa_cons (pv 1) pa_nil)) (pe_callB (len_K K) (by rfl) T.b_len (by decide +kernel) (pa_cons (pv 0) pa_nil))) (fun _ _ => rfl)) pa_nil)) (pv 2))))), ?_⟩
  try dsimp only [cxOf]
  obtain ⟨draws_here, k, many, nb, h⟩ := h
  refine Zm.body (js := [0, 1, 2]) (m := l_pick_m draws_here k many) nb h ?_
  refine zm_to (Γ2 := [(.val (dList (d := dInt)) draws_here), (.val dInt k), (.val dInt many)]) rfl ?_
  delta l_pick_m
  refine zm_ifP (te_eq (te_orP (te_test (we_lt (re_w (we_var rfl)) (re_w we_int))) (te_test (we_eqS (re_w (we_len (re_w (we_var rfl)))) (re_w we_int)))) rfl) ?_ ?_
  · exact zm_ret (we_eq we_int rfl)
  · refine zm_skip ?_
    refine zm_last ?_
    exact zm_ret (we_eq (we_mod (re_w (we_int1 (re_w (we_ix (we_var rfl) (re_w (we_mod (re_w (we_int1 (re_w (we_var rfl)))) (re_w (we_len (re_w (we_var rfl)))))))))) (re_w (we_var rfl))) rfl)
end K00

namespace K00
open PySem L2 G PM
set_option maxHeartbeats 4000000 in
theorem ok_l_web {P : Program} {w : World} {K : PySem.W.Frag} {mg : Str → Option Value} {base : Heap} (T : Txt K mg) (G_l_pick : FnOk P w K mg base (L2.CX P w) 1 T.a_l_pick T.f_l_pick ["_law_draws_here", "_law_k", "_law_many"] (sp_l_pick ⟨P, w, K⟩ T.A)) : FnOk P w K mg base (L2.CX P w) 2 T.a_l_web T.f_l_web ["_law_draws_here", "_law_most_places", "_law_most_ties"] (sp_l_web ⟨P, w, K⟩ T.A) := by
  have nd := sc_l_web.nd
  refine T.F_l_web.okX sc_l_web (fun vs H Q E h => ?_) (fun cdv A outer s H vs Q E hr h => ?_)
  · exact sp_l_web_len h
  have hu := hu_of hr
  refine ⟨_, (pss_cons (ps_set (i := 3) nd rfl (Or.inr rfl) (pe_lst (pa_cons pe_int (pa_cons pe_int (pa_cons pe_int (pa_cons pe_int (pa_cons pe_int (pa_cons pe_int pa_nil))))))))
      (pss_cons (ps_set (i := 4) nd rfl (Or.inl rfl) (pe_callS G_l_pick (hr.mono (by decide)) (by rfl) T.g_l_pick T.F_l_pick.kp T.d_l_pick (fun σ => passAt (takes_of rfl rfl rfl rfl) σ) (pa_cons (pv 0) (pa_cons pe_int (pa_cons (pe_op op_add (pv 1) pe_int) pa_nil)))))
      (pss_cons (ps_setLc (i := 6) (own := [("_law_k", 5)]) (by rfl) nd rfl rfl (sw_true rfl rfl rfl (by decide +kernel)) (pi_range1 (by rfl) T.b_range (pa_cons (pv 4) pa_nil)) (blkOk_by (own := [("_law_k", 5)]) (N := N_l_web) (sc := defScope s_l_web) (by decide +kernel)) (fun _ _ _ _ _ => (pg_name (i := 5) nd rfl (Or.inl rfl))) (fun _ _ _ _ _ => pts_nil) (fun _ _ _ _ _ => (pe_ix (ix_lK K) (pv 3) (pe_callS G_l_pick (hr.mono (by decide)) (by rfl) T.g_l_pick T.F_l_pick.kp T.d_l_pick (fun σ => passFS σ) (pa_cons (pv 0) (pa_cons (pe_op op_add pe_int (pv 5)) (pa_cons pe_int pa_nil)))) (fun _ _ => rfl))))
      (pss_cons (ps_set (i := 7) nd rfl (Or.inl rfl) (pe_lst pa_nil))
      (pss_cons (ps_for (passes_of rfl) rfl (pi_range1 (by rfl) T.b_range (pa_cons (pe_callS G_l_pick (hr.mono (by decide)) (by rfl) T.g_l_pick T.F_l_pick.kp T.d_l_pick (fun σ => passAt (takes_of rfl rfl rfl rfl) σ) (pa_cons (pv 0) (pa_cons pe_int (pa_cons (pe_op op_add (pv 2) pe_int) pa_nil)))) pa_nil)) (pg_name (i := 5) nd rfl (Or.inl rfl))
        (pss_one (ps_if (pt_cmpR op_gt (pv 4) pe_int (nomark _))
        (pss_cons (ps_set (i := 8) nd rfl (Or.inl rfl) (pe_op op_add (pe_op op_add pe_int (pv 4)) (pe_op op_mul pe_int (pv 5))))
      (pss_cons (ps_set (i := 9) nd rfl (Or.inl rfl) (pe_callS G_l_pick (hr.mono (by decide)) (by rfl) T.g_l_pick T.F_l_pick.kp T.d_l_pick (fun σ => passAt (takes_of rfl rfl rfl rfl) σ) (pa_cons (pv 0) (pa_cons (pv 8) (pa_cons (pv 4) pa_nil)))))
      (pss_cons (ps_set (i := 10) nd rfl (Or.inl rfl) (pe_callS G_l_pick (hr.mono (by decide)) (by rfl) T.g_l_pick T.F_l_pick.kp T.d_l_pick (fun σ => passAt (takes_of rfl rfl rfl rfl) σ) (pa_cons (pv 0) (pa_cons (pe_op op_add (pv 8) pe_int) (pa_cons (pv 4) pa_nil)))))
      (pss_cons (ps_set (i := 11) nd rfl (Or.inl rfl) (pe_callS G_l_pick (hr.mono (by decide)) (by rfl) T.g_l_pick T.F_l_pick.kp T.d_l_pick (fun σ => passAt (takes_of rfl rfl rfl rfl) σ) (pa_cons (pv 0) (pa_cons (pe_op op_add (pv 8) pe_int) (pa_cons (pe_ix (ix_lK K) (pv 6) (pv 9) (fun _ _ => rfl)) pa_nil)))))
      (pss_one (ps_expr (bm_K K PySem.F.plainAttrs_list PySem.F.slot_list_append PySem.F.type_list_append mt_append (pv 7) (pa_cons (pe_tup (pa_cons (pv 9) (pa_cons (pv 11) (pa_cons (pv 10) (pa_cons (pe_callS G_l_pick (hr.mono (by decide)) (by rfl) T.g_l_pick T.F_l_pick.kp T.d_l_pick (fun σ => passAt (takes_of rfl rfl rfl rfl) σ) (pa_cons (pv 0) (pa_cons (pe_op op_add (pv 8) pe_int) (pa_cons (pe_ix (ix_lK K) (pv 6) (pv 10) (fun _ _ => rfl)) pa_nil)))) pa_nil))))) pa_nil))))))))
        pss_nil)))
      (pss_one (ps_ret (pe_tup (pa_cons (pv 6) (pa_cons (pv 7) pa_nil)))))))))), ?_⟩
  try dsimp only [cxOf]
  obtain ⟨draws_here, most_places, most_ties, nb, h⟩ := h
  refine Zm.body (js := [0, 1, 2, 3, 4, 5, 6, 7, 8, 9, 10, 11]) (m := l_web_m draws_here most_places most_ties) nb h ?_
  refine zm_to (Γ2 := [(.val (dList (d := dInt)) draws_here), (.val dInt most_places), (.val dInt most_ties), .no, .no, .no, .no, .no, .no, .no, .no, .no]) rfl ?_
  delta l_web_m
  refine zm_set (i := 3) rfl (by decide) (we_eq (we_o (oe_lstN (wle_cons we_int (wle_cons we_int (wle_cons we_int (wle_cons we_int (wle_cons we_int (wle_cons we_int wle_nil)))))) (asLenS (asLenS (asLenS (asLenS (asLenS (asLenS asLen0)))))) (by decide))) rfl) fun menu_1 => ?_
  refine zm_set (i := 4) rfl (by decide) (we_eq (we_call3 hs_l_pick rfl (we_var rfl) we_int (we_add (re_w (we_var rfl)) (re_w we_int))) rfl) fun many_2 => ?_
  refine zm_setO (i := 6) rfl (by decide) (oe_eq (oe_lc (tg_name' (by decide)) (ic_range (re_w (we_var rfl))) fun x3 => (a_name rfl ⟨te_yes, (we_ix (we_var rfl) (re_w (we_call3 hs_l_pick rfl (we_var rfl) (we_add (re_w we_int) (re_w (we_var rfl))) we_int)))⟩)) rfl) fun sides_5 => ?_
  refine zm_setO (i := 7) rfl (by decide) (oe_eq (oe_lst0 (d := (dT4 (d1 := dInt) (d2 := dInt) (d3 := dInt) (d4 := dInt)))) rfl) fun ties_6 => ?_
  refine zm_for [5, 8, 9, 10, 11] (fun s7 => [(.val (dList (d := dInt)) draws_here), (.val dInt most_places), (.val dInt most_ties), (.val (dList (d := dInt)) menu_1), (.val dInt many_2), .no, (.own (dList (d := dInt)) (oList (d := dInt)) none sides_5), (.own (dList (d := (dT4 (d1 := dInt) (d2 := dInt) (d3 := dInt) (d4 := dInt)))) (oList (d := (dT4 (d1 := dInt) (d2 := dInt) (d3 := dInt) (d4 := dInt)))) none s7), .no, .no, .no, .no]) ties_6 (wlen 12 (by exact rfl) (by exact rfl) (by decide)) rfl (fun _ => (wlen 12 (by exact rfl) (by exact rfl) (by decide))) (ie_eq (ie_range (re_w (we_call3 hs_l_pick rfl (we_var rfl) we_int (we_add (re_w (we_var rfl)) (re_w we_int))))) rfl) (fun s7 x9 => (a_name rfl ⟨(wlen 12 (by exact rfl) (by exact rfl) (by decide)), ?_⟩)) fun s18 => ?_
  · refine zm_last ?_
    refine zm_ifP (te_eq (te_test (we_gt (re_w (we_var rfl)) (re_w we_int))) rfl) ?_ ?_
    · refine zm_assoc ?_
      refine zm_set (i := 8) rfl (by decide) (we_eq (we_add (re_w (we_add (re_w we_int) (re_w (we_var rfl)))) (re_w (we_mulCl (re_w we_int) (re_w (we_var rfl))))) rfl) fun at__10 => ?_
      refine zm_assoc ?_
      refine zm_set (i := 9) rfl (by decide) (we_eq (we_call3 hs_l_pick rfl (we_var rfl) (we_var rfl) (we_var rfl)) rfl) fun one_11 => ?_
      refine zm_assoc ?_
      refine zm_set (i := 10) rfl (by decide) (we_eq (we_call3 hs_l_pick rfl (we_var rfl) (we_add (re_w (we_var rfl)) (re_w we_int)) (we_var rfl)) rfl) fun other_12 => ?_
      refine zm_assoc ?_
      refine zm_set (i := 11) rfl (by decide) (we_eq (we_call3 hs_l_pick rfl (we_var rfl) (we_add (re_w (we_var rfl)) (re_w we_int)) (we_ixO rfl (re_w (we_var rfl)))) rfl) fun side_14 => ?_
      refine zm_append (i := 7) rfl (by decide) (we_eq (we_tup4 (we_var rfl) (we_var rfl) (we_var rfl) (we_call3 hs_l_pick rfl (we_var rfl) (we_add (re_w (we_var rfl)) (re_w we_int)) (we_ixO rfl (re_w (we_var rfl))))) rfl) fun ties_17 => ?_
      exact zm_nextL rfl
    · refine zm_skip ?_
      exact zm_nextL rfl
  · refine zm_last ?_
    exact zm_retP (i := 6) (j := 7) rfl rfl rfl
end K00

namespace K00
open PySem L2 G PM
set_option maxHeartbeats 4000000 in
theorem ok_p_check_end {P : Program} {w : World} {K : PySem.W.Frag} {mg : Str → Option Value} {base : Heap} (T : Txt K mg) (G_x_UnknownPlace : FnOk P w K mg base (L2.CX P w) 1 T.i_UnknownPlace T.fx_UnknownPlace ["self", "place"] (spX1 (T.A.tx .UnknownPlace) "place")) (G_x_UnknownSide : FnOk P w K mg base (L2.CX P w) 1 T.i_UnknownSide T.fx_UnknownSide ["self", "place", "side"] (spX2 (T.A.tx .UnknownSide) "place" "side")) : FnOk P w K mg base (L2.CX P w) 3 T.a_p_check_end T.f_p_check_end ["sides", "place", "side"] (sp_p_check_end ⟨P, w, K⟩ T.A) := by
  have nd := sc_p_check_end.nd
  refine T.F_p_check_end.okX sc_p_check_end (fun vs H Q E h => ?_) (fun cdv A outer s H vs Q E hr h => ?_)
  · exact sp_p_check_end_len h
  have hu := hu_of hr
  refine ⟨_, (pss_cons (ps_if (PW.pt (pw_or (pt_cmpR op_lt (pv 1) pe_int (nomark _)) (pw_or1 (pt_cmpR op_ge (pv 1) (pe_callB (len_K K) (by rfl) T.b_len (by decide +kernel) (pa_cons (pv 0) pa_nil)) (nomark _)))))
        (pss_one (ps_raise rfl (takes_of rfl rfl rfl rfl) (pmk_oex T.x_UnknownPlace.T T.x_UnknownPlace.init T.x_UnknownPlace.fn G_x_UnknownPlace (hr.mono (by decide)) T.dx_UnknownPlace .nil passF (by rfl) T.g_UnknownPlace (pa_cons (pv 1) pa_nil))))
        pss_nil)
      (pss_one (ps_if (PW.pt (pw_or (pt_cmpR op_lt (pv 2) pe_int (nomark _)) (pw_or1 (pt_cmpR op_ge (pv 2) (pe_ix (ix_lK K) (pv 0) (pv 1) (fun _ _ => rfl)) (nomark _)))))
        (pss_one (ps_raise rfl (takes_of rfl rfl rfl rfl) (pmk_oex T.x_UnknownSide.T T.x_UnknownSide.init T.x_UnknownSide.fn G_x_UnknownSide (hr.mono (by decide)) T.dx_UnknownSide .nil passF (by rfl) T.g_UnknownSide (pa_cons (pv 1) (pa_cons (pv 2) pa_nil)))))
        pss_nil))), ?_⟩
  try dsimp only [cxOf]
  obtain ⟨sides, place, side, nb, h⟩ := h
  refine Zm.body (js := [0, 1, 2]) (m := p_check_end_m sides place side) nb h ?_
  refine zm_to (Γ2 := [(.val (dList (d := dInt)) sides), (.val dInt place), (.val dInt side)]) rfl ?_
  delta p_check_end_m
  refine zm_ifP (te_eq (te_orP (te_test (we_lt (re_w (we_var rfl)) (re_w we_int))) (te_test (we_ge (re_w (we_var rfl)) (re_w (we_len (re_w (we_var rfl))))))) rfl) ?_ ?_
  · exact zm_raise1 rfl rfl (re_eq (re_w (we_var rfl)) rfl)
  · refine zm_skip ?_
    refine zm_last ?_
    refine zm_if (te_eq (te_or (te_test (we_lt (re_w (we_var rfl)) (re_w we_int))) (te_test (we_ge (re_w (we_var rfl)) (re_w (we_ix (we_var rfl) (re_w (we_var rfl))))))) rfl) ?_ ?_
    · exact zm_raise2 rfl rfl (re_eq (re_w (we_var rfl)) rfl) (re_eq (re_w (we_var rfl)) rfl)
    · refine zm_skip ?_
      exact zm_end
end K00

namespace K00
open PySem L2 G PM
set_option maxHeartbeats 4000000 in
theorem ok_m_WebX_initX {P : Program} {w : World} {K : PySem.W.Frag} {mg : Str → Option Value} {base : Heap} (T : Txt K mg) (G_p_check_end : FnOk P w K mg base (L2.CX P w) 3 T.a_p_check_end T.f_p_check_end ["sides", "place", "side"] (sp_p_check_end ⟨P, w, K⟩ T.A)) (G_x_BadSides : FnOk P w K mg base (L2.CX P w) 1 T.i_BadSides T.fx_BadSides ["self", "place"] (spX1 (T.A.tx .BadSides) "place")) (G_x_TooLarge : FnOk P w K mg base (L2.CX P w) 1 T.i_TooLarge T.fx_TooLarge ["self", "limit"] (spX1 (T.A.tx .TooLarge) "limit")) : FnOk P w K mg base (L2.CX P w) 4 T.a_m_WebX_initX T.f_m_WebX_initX ["self", "sides", "ties"] (sp_m_WebX_initX ⟨P, w, K⟩ T.A) := by
  have nd := sc_m_WebX_initX.nd
  refine T.F_m_WebX_initX.okX sc_m_WebX_initX (fun vs H Q E h => ?_) (fun cdv A outer s H vs Q E hr h => ?_)
  · exact sp_m_WebX_initX_len h
  have hu := hu_of hr
  refine ⟨_, (pss_cons (ps_if (pt_cmpR op_gt (pe_callB (len_K K) (by rfl) T.b_len (by decide +kernel) (pa_cons (pv 1) pa_nil)) (con_K K (pv 0) rfl) (nomark _))
        (pss_one (ps_raise rfl (takes_of rfl rfl rfl rfl) (pmk_oex T.x_TooLarge.T T.x_TooLarge.init T.x_TooLarge.fn G_x_TooLarge (hr.mono (by decide)) T.dx_TooLarge .nil passF (by rfl) T.g_TooLarge (pa_cons (con_K K (pv 0) rfl) pa_nil))))
        pss_nil)
      (pss_cons (ps_if (pt_cmpR op_gt (pe_callB (len_K K) (by rfl) T.b_len (by decide +kernel) (pa_cons (pv 2) pa_nil)) (con_K K (pv 0) rfl) (nomark _))
        (pss_one (ps_raise rfl (takes_of rfl rfl rfl rfl) (pmk_oex T.x_TooLarge.T T.x_TooLarge.init T.x_TooLarge.fn G_x_TooLarge (hr.mono (by decide)) T.dx_TooLarge .nil passF (by rfl) T.g_TooLarge (pa_cons (con_K K (pv 0) rfl) pa_nil))))
        pss_nil)
      (pss_cons (ps_for (passes_of rfl) rfl (pi_enum (by rfl) T.b_enumerate (pa_cons (pv 1) pa_nil)) (pg_tupK (n := 2) K (by rfl) (pgs_cons (pg_name (i := 3) nd rfl (Or.inl rfl)) (pgs_cons (pg_name (i := 4) nd rfl (Or.inl rfl)) pgs_nil)))
        (pss_one (ps_if (PW.pt (pw_or (pt_cmpR op_lt (pv 4) pe_int (nomark _)) (pw_or1 (pt_cmpR op_gt (pv 4) (con_K K (pv 0) rfl) (nomark _)))))
        (pss_one (ps_raise rfl (takes_of rfl rfl rfl rfl) (pmk_oex T.x_BadSides.T T.x_BadSides.init T.x_BadSides.fn G_x_BadSides (hr.mono (by decide)) T.dx_BadSides .nil passF (by rfl) T.g_BadSides (pa_cons (pv 3) pa_nil))))
        pss_nil)))
      (pss_cons (ps_for (passes_of rfl) rfl (pi_lK K (pv 2)) (pg_tupK (n := 4) K (by rfl) (pgs_cons (pg_name (i := 5) nd rfl (Or.inl rfl)) (pgs_cons (pg_name (i := 6) nd rfl (Or.inl rfl)) (pgs_cons (pg_name (i := 7) nd rfl (Or.inl rfl)) (pgs_cons (pg_name (i := 8) nd rfl (Or.inl rfl)) pgs_nil)))))
        (pss_cons (ps_expr (pe_callS G_p_check_end (hr.mono (by decide)) (by rfl) T.g_p_check_end T.F_p_check_end.kp T.d_p_check_end (fun σ => passAt (takes_of rfl rfl rfl rfl) σ) (pa_cons (pv 1) (pa_cons (pv 5) (pa_cons (pv 6) pa_nil)))))
      (pss_one (ps_expr (pe_callS G_p_check_end (hr.mono (by decide)) (by rfl) T.g_p_check_end T.F_p_check_end.kp T.d_p_check_end (fun σ => passAt (takes_of rfl rfl rfl rfl) σ) (pa_cons (pv 1) (pa_cons (pv 7) (pa_cons (pv 8) pa_nil))))))))
      (pss_cons (ps_fld (pv 0) (pe_callTy (tuple_K K) (by rfl) T.b_tuple (by decide +kernel) (pa_cons (pv 1) pa_nil)) rfl)
      (pss_one (ps_fld (pv 0) (pe_callTy (tuple_K K) (by rfl) T.b_tuple (by decide +kernel) (pa_cons (pe_lc (own := [("one", 5), ("side", 6), ("other", 7), ("far_side", 8)]) (by rfl) nd (pi_lB K (pv 2)) (blkOk_by (own := [("one", 5), ("side", 6), ("other", 7), ("far_side", 8)]) (N := N_m_WebX_initX) (sc := defScope s_m_WebX_initX) (by decide +kernel)) (fun _ _ _ _ _ => (pg_tupK (n := 4) K (by rfl) (pgs_cons (pg_name (i := 5) nd rfl (Or.inl rfl)) (pgs_cons (pg_name (i := 6) nd rfl (Or.inl rfl)) (pgs_cons (pg_name (i := 7) nd rfl (Or.inl rfl)) (pgs_cons (pg_name (i := 8) nd rfl (Or.inl rfl)) pgs_nil)))))) (fun _ _ _ _ _ => pts_nil) (fun _ _ _ _ _ => (pe_tup (pa_cons (pv 5) (pa_cons (pv 6) (pa_cons (pv 7) (pa_cons (pv 8) pa_nil))))))) pa_nil)) rfl))))))), ?_⟩
  try dsimp only [cxOf]
  obtain ⟨sides, ties, nb, h⟩ := h
  refine Zm.bodyI (js := [0, 1, 2, 3, 4, 5, 6, 7, 8]) (m := m_WebX_initX_m sides ties) nb h fun pp => ?_
  generalize (⟨()⟩ : Ob0) = x0
  refine zm_to (Γ2 := [(.own (dOb0 (T.A.ob .Web)) (oOb0 (T.A.ob .Web)) (some (.ref pp)) x0), (.val (dList (d := dInt)) sides), (.val (dList (d := (dT4 (d1 := dInt) (d2 := dInt) (d3 := dInt) (d4 := dInt)))) ties), .no, .no, .no, .no, .no, .no]) rfl ?_
  delta m_WebX_initX_m
  refine zm_ifP (te_eq (te_test (we_gt (re_w (we_len (re_w (we_var rfl)))) (re_w (we_con isI0 T.c_Web T.k_Web_MOST_PLACES (by decide) (re_varO rfl))))) rfl) ?_ ?_
  · exact zm_raise1 rfl rfl (re_eq (re_w (we_con isI0 T.c_Web T.k_Web_MOST_PLACES (by decide) (re_varO rfl))) rfl)
  · refine zm_skip ?_
    refine zm_ifP (te_eq (te_test (we_gt (re_w (we_len (re_w (we_var rfl)))) (re_w (we_con isI0 T.c_Web T.k_Web_MOST_TIES (by decide) (re_varO rfl))))) rfl) ?_ ?_
    · exact zm_raise1 rfl rfl (re_eq (re_w (we_con isI0 T.c_Web T.k_Web_MOST_TIES (by decide) (re_varO rfl))) rfl)
    · refine zm_skip ?_
      refine zm_for [3, 4] (fun (_ : Unit) => [(.own (dOb0 (T.A.ob .Web)) (oOb0 (T.A.ob .Web)) (some (.ref pp)) x0), (.val (dList (d := dInt)) sides), (.val (dList (d := (dT4 (d1 := dInt) (d2 := dInt) (d3 := dInt) (d4 := dInt)))) ties), .no, .no, .no, .no, .no, .no]) () (wlen 9 (by exact rfl) (by exact rfl) (by decide)) rfl (fun _ => (wlen 9 (by exact rfl) (by exact rfl) (by decide))) (ie_eq (ie_enum (we_var rfl)) rfl) (fun _ x2 => (a_pair rfl (a_name rfl (a_name rfl ⟨(wlen 9 (by exact rfl) (by exact rfl) (by decide)), ?_⟩)))) fun _ => ?_
      · refine zm_last ?_
        refine zm_ifP (te_eq (te_orP (te_test (we_lt (re_w (we_var rfl)) (re_w we_int))) (te_test (we_gt (re_w (we_var rfl)) (re_w (we_con isI0 T.c_Web T.k_Web_MOST_SIDES (by decide) (re_varO rfl)))))) rfl) ?_ ?_
        · exact zm_raise1 rfl rfl (re_eq (re_w (we_var rfl)) rfl)
        · refine zm_skip ?_
          exact zm_nextL rfl
      · refine zm_for [5, 6, 7, 8] (fun (_ : Unit) => [(.own (dOb0 (T.A.ob .Web)) (oOb0 (T.A.ob .Web)) (some (.ref pp)) x0), (.val (dList (d := dInt)) sides), (.val (dList (d := (dT4 (d1 := dInt) (d2 := dInt) (d3 := dInt) (d4 := dInt)))) ties), .no, .no, .no, .no, .no, .no]) () (wlen 9 (by exact rfl) (by exact rfl) (by decide)) rfl (fun _ => (wlen 9 (by exact rfl) (by exact rfl) (by decide))) (ie_eq (ie_list (we_var rfl)) rfl) (fun _ x5 => (a_T4 rfl (a_name rfl (a_name rfl (a_name rfl (a_name rfl ⟨(wlen 9 (by exact rfl) (by exact rfl) (by decide)), ?_⟩)))))) fun _ => ?_
        · refine zm_drop (re_eq (re_w (we_call3 hs_p_check_end rfl (we_var rfl) (we_var rfl) (we_var rfl))) rfl) ?_
          refine zm_last ?_
          refine zm_drop (re_eq (re_w (we_call3 hs_p_check_end rfl (we_var rfl) (we_var rfl) (we_var rfl))) rfl) ?_
          exact zm_nextL rfl
        · refine zm_fld1 (i := 0) rfl (by decide) T.c_Web T.n_Web_sides (we_eq (we_tupOf (we_var rfl)) rfl) fun f_7 => ?_
          refine zm_last ?_
          refine zm_fld2 (i := 0) rfl (by decide) rfl T.c_Web T.n_Web_ties (we_eq (we_tupOf (we_o (oe_lc (tg_tup' (tgs_cons' (tg_name' (by decide)) (tgs_cons' (tg_name' (by decide)) (tgs_cons' (tg_name' (by decide)) (tgs_cons' (tg_name' (by decide)) tgs_nil'))))) (ic_list (we_var rfl)) fun x8 => (a_T4 rfl (a_name rfl (a_name rfl (a_name rfl (a_name rfl ⟨te_yes, (we_tup4 (we_var rfl) (we_var rfl) (we_var rfl) (we_var rfl))⟩)))))))) rfl) fun f_10 => ?_
          exact zm_endI rfl
end K00

namespace K00
open PySem L2 G PM
set_option maxHeartbeats 4000000 in
theorem ok_l_counts {P : Program} {w : World} {K : PySem.W.Frag} {mg : Str → Option Value} {base : Heap} (T : Txt K mg) : FnOk P w K mg base (L2.CX P w) 1 T.a_l_counts T.f_l_counts ["_law_sides", "_law_ties"] (sp_l_counts ⟨P, w, K⟩ T.A) := by
  have nd := sc_l_counts.nd
  refine T.F_l_counts.okX sc_l_counts (fun vs H Q E h => ?_) (fun cdv A outer s H vs Q E hr h => ?_)
  · exact sp_l_counts_len h
  have hu := hu_of hr
  refine ⟨_, (pss_cons (ps_set (i := 2) nd rfl (Or.inl rfl) (pe_lst pa_nil))
      (pss_cons (ps_for (passes_of rfl) rfl (pi_lK K (pv 0)) (pg_name (i := 3) nd rfl (Or.inl rfl))
        (pss_one (ps_expr (bm_K K PySem.F.plainAttrs_list PySem.F.slot_list_append PySem.F.type_list_append mt_append (pv 2) (pa_cons (pe_lc (own := [("_law_k", 8)]) (by rfl) nd (pi_range1 (by rfl) T.b_range (pa_cons (pv 3) pa_nil)) (blkOk_by (own := [("_law_k", 8)]) (N := N_l_counts) (sc := defScope s_l_counts) (by decide +kernel)) (fun _ _ _ _ _ => (pg_name (i := 8) nd rfl (Or.inl rfl))) (fun _ _ _ _ _ => pts_nil) (fun _ _ _ _ _ => pe_int)) pa_nil)))))
      (pss_cons (ps_for (passes_of rfl) rfl (pi_lK K (pv 1)) (pg_tupK (n := 4) K (by rfl) (pgs_cons (pg_name (i := 4) nd rfl (Or.inl rfl)) (pgs_cons (pg_name (i := 5) nd rfl (Or.inl rfl)) (pgs_cons (pg_name (i := 6) nd rfl (Or.inl rfl)) (pgs_cons (pg_name (i := 7) nd rfl (Or.inl rfl)) pgs_nil)))))
        (pss_cons (ps_asg (pe_op op_add (pe_ix (ix_lK K) (pe_ix (ix_lK K) (pv 2) (pv 4) (fun _ _ => rfl)) (pv 5) (fun _ _ => rfl)) pe_int) (pg_sub (pe_ix (ix_lK K) (pv 2) (pv 4) (fun _ _ => rfl)) (pv 5) set_list))
      (pss_one (ps_asg (pe_op op_add (pe_ix (ix_lK K) (pe_ix (ix_lK K) (pv 2) (pv 6) (fun _ _ => rfl)) (pv 7) (fun _ _ => rfl)) pe_int) (pg_sub (pe_ix (ix_lK K) (pv 2) (pv 6) (fun _ _ => rfl)) (pv 7) set_list)))))
      (pss_one (ps_ret (pv 2)))))), ?_⟩
  try dsimp only [cxOf]
  obtain ⟨sides, ties, nb, h⟩ := h
  refine Zm.body (js := [0, 1, 2, 3, 4, 5, 6, 7, 8]) (m := l_counts_m sides ties) nb h ?_
  refine zm_to (Γ2 := [(.val (dList (d := dInt)) sides), (.val (dList (d := (dT4 (d1 := dInt) (d2 := dInt) (d3 := dInt) (d4 := dInt)))) ties), .no, .no, .no, .no, .no, .no, .no]) rfl ?_
  delta l_counts_m
  refine zm_setO (i := 2) rfl (by decide) (oe_eq (oe_nilDeep (od := (oList (d := dInt)))) rfl) fun counts_here_1 => ?_
  refine zm_for [3] (fun s2 => [(.val (dList (d := dInt)) sides), (.val (dList (d := (dT4 (d1 := dInt) (d2 := dInt) (d3 := dInt) (d4 := dInt)))) ties), (.own (dList (d := (dList (d := dInt)))) (oDeep (oList (d := dInt))) none s2), .no, .no, .no, .no, .no, .no]) counts_here_1 (wlen 9 (by exact rfl) (by exact rfl) (by decide)) rfl (fun _ => (wlen 9 (by exact rfl) (by exact rfl) (by decide))) (ie_eq (ie_list (we_var rfl)) rfl) (fun s2 x3 => (a_name rfl ⟨(wlen 9 (by exact rfl) (by exact rfl) (by decide)), ?_⟩)) fun s6 => ?_
  · refine zm_last ?_
    refine zm_pushO (i := 2) rfl (by decide) (oe_eq (oe_lc (tg_name' (by decide)) (ic_range (re_w (we_var rfl))) fun x4 => (a_name rfl ⟨te_yes, we_int⟩)) rfl) fun counts_here_5 => ?_
    exact zm_nextL rfl
  · refine zm_for [4, 5, 6, 7] (fun s7 => [(.val (dList (d := dInt)) sides), (.val (dList (d := (dT4 (d1 := dInt) (d2 := dInt) (d3 := dInt) (d4 := dInt)))) ties), (.own (dList (d := (dList (d := dInt)))) (oDeep (oList (d := dInt))) none s7), .no, .no, .no, .no, .no, .no]) s6 (wlen 9 (by exact rfl) (by exact rfl) (by decide)) rfl (fun _ => (wlen 9 (by exact rfl) (by exact rfl) (by decide))) (ie_eq (ie_list (we_var rfl)) rfl) (fun s7 x8 => (a_T4 rfl (a_name rfl (a_name rfl (a_name rfl (a_name rfl ⟨(wlen 9 (by exact rfl) (by exact rfl) (by decide)), ?_⟩)))))) fun s15 => ?_
    · refine zm_setIxx (i := 2) rfl (by decide) (we_eq (we_add (re_ix (re_ix (re_varO rfl) (re_w (we_var rfl))) (re_w (we_var rfl))) (re_w we_int)) rfl) (re_eq (re_w (we_var rfl)) rfl) (re_eq (re_w (we_var rfl)) rfl) fun counts_here_11 => ?_
      refine zm_last ?_
      refine zm_setIxx (i := 2) rfl (by decide) (we_eq (we_add (re_ix (re_ix (re_varO rfl) (re_w (we_var rfl))) (re_w (we_var rfl))) (re_w we_int)) rfl) (re_eq (re_w (we_var rfl)) rfl) (re_eq (re_w (we_var rfl)) rfl) fun counts_here_14 => ?_
      exact zm_nextL rfl
    · refine zm_last ?_
      exact zm_retV rfl
end K00

namespace K00
open PySem L2 G PM
set_option maxHeartbeats 4000000 in
theorem ok_p_end_counts {P : Program} {w : World} {K : PySem.W.Frag} {mg : Str → Option Value} {base : Heap} (T : Txt K mg) : FnOk P w K mg base (L2.CX P w) 1 T.a_p_end_counts T.f_p_end_counts ["web"] (sp_p_end_counts ⟨P, w, K⟩ T.A) := by
  have nd := sc_p_end_counts.nd
  refine T.F_p_end_counts.okX sc_p_end_counts (fun vs H Q E h => ?_) (fun cdv A outer s H vs Q E hr h => ?_)
  · exact sp_p_end_counts_len h
  have hu := hu_of hr
  refine ⟨_, (pss_cons (ps_setLc (i := 1) (own := [("many", 6)]) (by rfl) nd rfl rfl (sw_true rfl rfl rfl (by decide +kernel)) (pi_tB K (fld_K K (pv 0) rfl)) (blkOk_by (own := [("many", 6)]) (N := N_p_end_counts) (sc := defScope s_p_end_counts) (by decide +kernel)) (fun _ _ _ _ _ => (pg_name (i := 6) nd rfl (Or.inl rfl))) (fun _ _ _ _ _ => pts_nil) (fun _ _ _ _ _ => (pe_op op_repR (pe_lst (pa_cons pe_int pa_nil)) (pv 6))))
      (pss_cons (ps_for (passes_of rfl) rfl (pi_tK K (fld_K K (pv 0) rfl)) (pg_tupK (n := 4) K (by rfl) (pgs_cons (pg_name (i := 2) nd rfl (Or.inl rfl)) (pgs_cons (pg_name (i := 3) nd rfl (Or.inl rfl)) (pgs_cons (pg_name (i := 4) nd rfl (Or.inl rfl)) (pgs_cons (pg_name (i := 5) nd rfl (Or.inl rfl)) pgs_nil)))))
        (pss_cons (ps_augS (pe_ix (ix_lK K) (pv 1) (pv 2) (fun _ _ => rfl)) (pv 3) (pg_lK K) pe_int ip_add set_list)
      (pss_one (ps_augS (pe_ix (ix_lK K) (pv 1) (pv 4) (fun _ _ => rfl)) (pv 5) (pg_lK K) pe_int ip_add set_list))))
      (pss_one (ps_ret (pv 1))))), ?_⟩
  try dsimp only [cxOf]
  obtain ⟨web, nb, h⟩ := h
  refine Zm.body (js := [0, 1, 2, 3, 4, 5, 6]) (m := p_end_counts_m web) nb h ?_
  refine zm_to (Γ2 := [(.val (dWeb T.A) web), .no, .no, .no, .no, .no, .no]) rfl ?_
  delta p_end_counts_m
  refine zm_setO (i := 1) rfl (by decide) (oe_eq (oe_lcO (tg_name' (by decide)) (ico_tup (we_fld (isF_Web_sides T.A) T.c_Web T.n_Web_sides (we_var rfl))) fun x1 => (a_name rfl ⟨te_yes, (oe_rep (we_o (oe_lstN (wle_cons we_int wle_nil) (asLenS asLen0) (by decide))) (re_w (we_var rfl)))⟩)) rfl) fun counts_2 => ?_
  refine zm_for [2, 3, 4, 5] (fun s3 => [(.val (dWeb T.A) web), (.own (dList (d := (dList (d := dInt)))) (oDeep (oList (d := dInt))) none s3), .no, .no, .no, .no, .no]) counts_2 (wlen 7 (by exact rfl) (by exact rfl) (by decide)) rfl (fun _ => (wlen 7 (by exact rfl) (by exact rfl) (by decide))) (ie_eq (ie_tup (we_fld (isF_Web_ties T.A) T.c_Web T.n_Web_ties (we_var rfl))) rfl) (fun s3 x4 => (a_T4 rfl (a_name rfl (a_name rfl (a_name rfl (a_name rfl ⟨(wlen 7 (by exact rfl) (by exact rfl) (by decide)), ?_⟩)))))) fun s7 => ?_
  · refine zm_augIxx (i := 1) rfl (by decide) (re_eq (re_w (we_var rfl)) rfl) (re_eq (re_w (we_var rfl)) rfl) (re_eq (re_w we_int) rfl) fun counts_5 => ?_
    refine zm_last ?_
    refine zm_augIxx (i := 1) rfl (by decide) (re_eq (re_w (we_var rfl)) rfl) (re_eq (re_w (we_var rfl)) rfl) (re_eq (re_w we_int) rfl) fun counts_6 => ?_
    exact zm_nextL rfl
  · refine zm_last ?_
    exact zm_retV rfl
end K00

namespace K00
open PySem L2 G PM
set_option maxHeartbeats 4000000 in
theorem ok_l_is_number {P : Program} {w : World} {K : PySem.W.Frag} {mg : Str → Option Value} {base : Heap} (T : Txt K mg) : FnOk P w K mg base (L2.CX P w) 1 T.a_l_is_number T.f_l_is_number ["_law_told"] (sp_l_is_number ⟨P, w, K⟩ T.A) := by
  have nd := sc_l_is_number.nd
  refine T.F_l_is_number.okX sc_l_is_number (fun vs H Q E h => ?_) (fun cdv A outer s H vs Q E hr h => ?_)
  · exact sp_l_is_number_len h
  have hu := hu_of hr
  refine ⟨_, (pss_one (ps_ret (pe_and (pe_callB (isi_K K) (by rfl) T.b_isinstance (by decide +kernel) (pa_cons (pv 0) (pa_cons (pe_bltn (v := .ty "int") (by rfl) T.b_int (by decide +kernel) rfl) pa_nil))) (pe_one (pe_not (pe_callB (isi_K K) (by rfl) T.b_isinstance (by decide +kernel) (pa_cons (pv 0) (pa_cons (pe_bltn (v := .ty "bool") (by rfl) T.b_bool (by decide +kernel) rfl) pa_nil)))))))), ?_⟩
  try dsimp only [cxOf]
  obtain ⟨told, nb, h⟩ := h
  refine Zm.body (js := [0]) (m := l_is_number_m told) nb h ?_
  refine zm_to (Γ2 := [(.val dInt told)]) rfl ?_
  delta l_is_number_m
  refine zm_last ?_
  exact zm_ret (we_eq (we_andP (we_isi (b := true) (kit_ty (by decide +kernel)) (re_w (we_var rfl))) (we_not (we_isi (b := false) (kit_ty (by decide +kernel)) (re_w (we_var rfl))))) rfl)
end K00

namespace K00
open PySem L2 G PM
set_option maxHeartbeats 4000000 in
theorem ok_l_numbers {P : Program} {w : World} {K : PySem.W.Frag} {mg : Str → Option Value} {base : Heap} (T : Txt K mg) (G_l_is_number : FnOk P w K mg base (L2.CX P w) 1 T.a_l_is_number T.f_l_is_number ["_law_told"] (sp_l_is_number ⟨P, w, K⟩ T.A)) : FnOk P w K mg base (L2.CX P w) 2 T.a_l_numbers T.f_l_numbers ["_law_told", "_law_due"] (sp_l_numbers ⟨P, w, K⟩ T.A) := by
  have nd := sc_l_numbers.nd
  refine T.F_l_numbers.okX sc_l_numbers (fun vs H Q E h => ?_) (fun cdv A outer s H vs Q E hr h => ?_)
  · exact sp_l_numbers_len h
  have hu := hu_of hr
  refine ⟨_, (pss_cons (ps_if (PW.pt (pw_or (pt_not (pt_val (pe_callB (isi_K K) (by rfl) T.b_isinstance (by decide +kernel) (pa_cons (pv 0) (pa_cons (pe_bltn (v := .ty "list") (by rfl) T.b_list (by decide +kernel) rfl) pa_nil))))) (pw_or1 (pt_cmpR op_ne (pe_callB (len_K K) (by rfl) T.b_len (by decide +kernel) (pa_cons (pv 0) pa_nil)) (pe_callB (len_K K) (by rfl) T.b_len (by decide +kernel) (pa_cons (pv 1) pa_nil)) (nomark _)))))
        (pss_one (ps_ret pe_bl))
        pss_nil)
      (pss_cons (ps_for (passes_of rfl) rfl (pi_range1 (by rfl) T.b_range (pa_cons (pe_callB (len_K K) (by rfl) T.b_len (by decide +kernel) (pa_cons (pv 1) pa_nil)) pa_nil)) (pg_name (i := 2) nd rfl (Or.inl rfl))
        (pss_one (ps_if (PW.pt (pw_or (pt_not (pt_val (pe_callS G_l_is_number (hr.mono (by decide)) (by rfl) T.g_l_is_number T.F_l_is_number.kp T.d_l_is_number (fun σ => passAt (takes_of rfl rfl rfl rfl) σ) (pa_cons (pe_ix (ix_lK K) (pv 0) (pv 2) (fun _ _ => rfl)) pa_nil)))) (pw_or1 (pt_cmpR op_ne (pe_ix (ix_lK K) (pv 0) (pv 2) (fun _ _ => rfl)) (pe_ix (ix_lK K) (pv 1) (pv 2) (fun _ _ => rfl)) (nomark _)))))
        (pss_one (ps_ret pe_bl))
        pss_nil)))
      (pss_one (ps_ret pe_bl)))), ?_⟩
  try dsimp only [cxOf]
  obtain ⟨told, due, nb, h⟩ := h
  refine Zm.body (js := [0, 1, 2]) (m := l_numbers_m told due) nb h ?_
  refine zm_to (Γ2 := [(.val (dList (d := dInt)) told), (.val (dList (d := dInt)) due), .no]) rfl ?_
  delta l_numbers_m
  refine zm_ifP (te_eq (te_orP (te_not (te_B (we_isi (b := true) (kit_ty (by decide +kernel)) (re_w (we_var rfl))))) (te_test (we_neS (re_w (we_len (re_w (we_var rfl)))) (re_w (we_len (re_w (we_var rfl))))))) rfl) ?_ ?_
  · exact zm_ret (we_eq we_bl rfl)
  · refine zm_skip ?_
    refine zm_forC [2] (fun (_ : Unit) => [(.val (dList (d := dInt)) told), (.val (dList (d := dInt)) due), .no]) (fun r => .val dBool r) () (wlen 3 (by exact rfl) (by exact rfl) (by decide)) rfl (fun _ => (wlen 3 (by exact rfl) (by exact rfl) (by decide))) (ie_eq (ie_range (re_w (we_len (re_w (we_var rfl))))) rfl) (fun _ x2 => (a_name rfl ⟨(wlen 3 (by exact rfl) (by exact rfl) (by decide)), ?_⟩)) rt_KF fun _ => ?_
    · refine zm_last ?_
      refine zm_if (te_eq (te_or (te_not (te_B (we_call1 hs_l_is_number rfl (we_ix (we_var rfl) (re_w (we_var rfl)))))) (te_test (we_neS (re_w (we_ix (we_var rfl) (re_w (we_var rfl)))) (re_w (we_ix (we_var rfl) (re_w (we_var rfl))))))) rfl) ?_ ?_
      · exact zm_retC (we_eq we_bl rfl)
      · refine zm_skip ?_
        exact zm_nextC rfl
    · refine zm_last ?_
      exact zm_ret (we_eq we_bl rfl)
end K00

namespace K00
open PySem L2 G PM
set_option maxHeartbeats 4000000 in
theorem ok_p_side_table {P : Program} {w : World} {K : PySem.W.Frag} {mg : Str → Option Value} {base : Heap} (T : Txt K mg) (G_p_end_counts : FnOk P w K mg base (L2.CX P w) 1 T.a_p_end_counts T.f_p_end_counts ["web"] (sp_p_end_counts ⟨P, w, K⟩ T.A)) : FnOk P w K mg base (L2.CX P w) 2 T.a_p_side_table T.f_p_side_table ["web"] (sp_p_side_table ⟨P, w, K⟩ T.A) := by
  have nd := sc_p_side_table.nd
  refine T.F_p_side_table.okX sc_p_side_table (fun vs H Q E h => ?_) (fun cdv A outer s H vs Q E hr h => ?_)
  · exact sp_p_side_table_len h
  have hu := hu_of hr
  refine ⟨_, (pss_cons (ps_set (i := 1) nd rfl (Or.inl rfl) (pe_lst pa_nil))
      (pss_cons (ps_for (passes_of rfl) rfl (pi_enum (by rfl) T.b_enumerate (pa_cons (pe_callS G_p_end_counts (hr.mono (by decide)) (by rfl) T.g_p_end_counts T.F_p_end_counts.kp T.d_p_end_counts (fun σ => passAt (takes_of rfl rfl rfl rfl) σ) (pa_cons (pv 0) pa_nil)) pa_nil)) (pg_tupK (n := 2) K (by rfl) (pgs_cons (pg_name (i := 2) nd rfl (Or.inl rfl)) (pgs_cons (pg_name (i := 3) nd rfl (Or.inl rfl)) pgs_nil)))
        (pss_cons (ps_setLc (i := 4) (own := [("many", 5)]) (by rfl) nd rfl rfl (sw_true rfl rfl rfl (by decide +kernel)) (pi_lB K (pe_op op_catR (pe_lst (pa_cons (pv 2) pa_nil)) (pv 3))) (blkOk_by (own := [("many", 5)]) (N := N_p_side_table) (sc := defScope s_p_side_table) (by decide +kernel)) (fun _ _ _ _ _ => (pg_name (i := 5) nd rfl (Or.inl rfl))) (fun _ _ _ _ _ => pts_nil) (fun _ _ _ _ _ => (pe_joined1 (pe_fmtI (sp := ">4") T.digits (pv 5) (pe_joined1 pe_str) (by decide +kernel) (by decide +kernel)))))
      (pss_cons (ps_if (pt_cmpR op_gt (pe_callB (len_K K) (by rfl) T.b_len (by decide +kernel) (pa_cons (pe_lc (own := [("many", 5)]) (by rfl) nd (pi_lB K (pv 3)) (blkOk_by (own := [("many", 5)]) (N := N_p_side_table) (sc := defScope s_p_side_table) (by decide +kernel)) (fun _ _ _ _ _ => (pg_name (i := 5) nd rfl (Or.inl rfl))) (fun _ _ _ _ _ => (pts_one (pt_cmpR op_gt (pv 5) pe_int (nomark _)))) (fun _ _ _ _ _ => (pv 5))) pa_nil)) pe_int (nomark _))
        (pss_one (ps_expr (bm_K K PySem.F.plainAttrs_list PySem.F.slot_list_append PySem.F.type_list_append mt_append (pv 4) (pa_cons pe_str pa_nil))))
        pss_nil)
      (pss_one (ps_expr (bm_K K PySem.F.plainAttrs_list PySem.F.slot_list_append PySem.F.type_list_append mt_append (pv 1) (pa_cons (join_K K pe_str (pv 4)) pa_nil)))))))
      (pss_one (ps_ret (pv 1))))), ?_⟩
  try dsimp only [cxOf]
  obtain ⟨web, nb, h⟩ := h
  refine Zm.body (js := [0, 1, 2, 3, 4, 5]) (m := p_side_table_m web) nb h ?_
  refine zm_to (Γ2 := [(.val (dWeb T.A) web), .no, .no, .no, .no, .no]) rfl ?_
  delta p_side_table_m
  refine zm_setO (i := 1) rfl (by decide) (oe_eq (oe_lst0 (d := dStr)) rfl) fun rows_1 => ?_
  refine zm_for [2, 3, 4] (fun s2 => [(.val (dWeb T.A) web), (.own (dList (d := dStr)) (oList (d := dStr)) none s2), .no, .no, .no, .no]) rows_1 (wlen 6 (by exact rfl) (by exact rfl) (by decide)) rfl (fun _ => (wlen 6 (by exact rfl) (by exact rfl) (by decide))) (ie_eq (ie_enum (we_o (oe_call1 hs_p_end_counts rfl (we_var rfl)))) rfl) (fun s2 x4 => (a_pair rfl (a_name rfl (a_name rfl ⟨(wlen 6 (by exact rfl) (by exact rfl) (by decide)), ?_⟩)))) fun s14 => ?_
  · refine zm_setO (i := 4) rfl (by decide) (oe_eq (oe_lc (tg_name' (by decide)) (ic_list (we_o (oe_cat (we_o (oe_lstN (wle_cons (we_var rfl) wle_nil) (asLenS asLen0) (by decide))) (we_var rfl)))) fun x5 => (a_name rfl ⟨te_yes, (we_fmtI (re_w (we_var rfl)))⟩)) rfl) fun columns_6 => ?_
    refine zm_join [] (fun s11 => [(.val (dWeb T.A) web), (.own (dList (d := dStr)) (oList (d := dStr)) none s2), (.val dInt x4.1), (.val (dList (d := dInt)) x4.2), (.own (dList (d := dStr)) (oList (d := dStr)) none s11), .no]) (fun _ => (wlen 6 (by exact rfl) (by exact rfl) (by decide))) ?_ fun s11 => ?_
    · refine zm_last (zm_if (te_eq (te_test (we_gt (re_w (we_len (re_w (we_o (oe_lc (tg_name' (by decide)) (ic_list (we_var rfl)) fun x7 => (a_name rfl ⟨(te_test (we_gt (re_w (we_var rfl)) (re_w we_int))), (we_var rfl)⟩)))))) (re_w we_int))) rfl) ?_ ?_)
      · refine zm_append (i := 4) rfl (by decide) (we_eq we_str rfl) fun columns_10 => ?_
        exact zm_nextJ rfl
      · refine zm_skip ?_
        exact zm_nextJ rfl
    · refine zm_last ?_
      refine zm_frz 4 rfl (by decide) ?_
      refine zm_append (i := 1) rfl (by decide) (we_eq (we_join we_str (we_var rfl)) rfl) fun rows_12 => ?_
      exact zm_nextL rfl
  · refine zm_last ?_
    exact zm_retV rfl
end K00

namespace K00
open PySem L2 G PM
set_option maxHeartbeats 4000000 in
theorem ok_l_row {P : Program} {w : World} {K : PySem.W.Frag} {mg : Str → Option Value} {base : Heap} (T : Txt K mg) : FnOk P w K mg base (L2.CX P w) 1 T.a_l_row T.f_l_row ["_law_place", "_law_counts_here"] (sp_l_row ⟨P, w, K⟩ T.A) := by
  have nd := sc_l_row.nd
  refine T.F_l_row.okX sc_l_row (fun vs H Q E h => ?_) (fun cdv A outer s H vs Q E hr h => ?_)
  · exact sp_l_row_len h
  have hu := hu_of hr
  refine ⟨_, (pss_cons (ps_set (i := 2) nd rfl (Or.inl rfl) pe_str)
      (pss_cons (ps_for (passes_of rfl) rfl (pi_lK K (pe_op op_catR (pe_lst (pa_cons (pv 0) pa_nil)) (pv 1))) (pg_name (i := 3) nd rfl (Or.inl rfl))
        (pss_one (ps_set (i := 2) nd rfl (Or.inl rfl) (pe_op op_catS (pe_op op_catS (pv 2) (pe_op op_repS pe_str (pe_op op_sub pe_int (pe_callB call_len_str (by rfl) T.b_len (by decide +kernel) (pa_cons (pe_callTy call_str_int (by rfl) T.b_str (by decide +kernel) (pa_cons (pv 3) pa_nil)) pa_nil))))) (pe_callTy call_str_int (by rfl) T.b_str (by decide +kernel) (pa_cons (pv 3) pa_nil))))))
      (pss_cons (ps_if (pt_cmpR op_gt (pe_callB (len_K K) (by rfl) T.b_len (by decide +kernel) (pa_cons (pe_lc (own := [("_law_many", 4)]) (by rfl) nd (pi_lB K (pv 1)) (blkOk_by (own := [("_law_many", 4)]) (N := N_l_row) (sc := defScope s_l_row) (by decide +kernel)) (fun _ _ _ _ _ => (pg_name (i := 4) nd rfl (Or.inl rfl))) (fun _ _ _ _ _ => (pts_one (pt_cmpR op_gt (pv 4) pe_int (nomark _)))) (fun _ _ _ _ _ => (pv 4))) pa_nil)) pe_int (nomark _))
        (pss_one (ps_set (i := 2) nd rfl (Or.inl rfl) (pe_op op_catS (pv 2) pe_str)))
        pss_nil)
      (pss_one (ps_ret (pv 2)))))), ?_⟩
  try dsimp only [cxOf]
  obtain ⟨place, counts_here, nb, h⟩ := h
  refine Zm.body (js := [0, 1, 2, 3, 4]) (m := l_row_m place counts_here) nb h ?_
  refine zm_to (Γ2 := [(.val dInt place), (.val (dList (d := dInt)) counts_here), .no, .no, .no]) rfl ?_
  delta l_row_m
  refine zm_set (i := 2) rfl (by decide) (we_eq we_str rfl) fun row_here_1 => ?_
  refine zm_for [3] (fun s2 => [(.val dInt place), (.val (dList (d := dInt)) counts_here), (.val dStr s2), .no, .no]) row_here_1 (wlen 5 (by exact rfl) (by exact rfl) (by decide)) rfl (fun _ => (wlen 5 (by exact rfl) (by exact rfl) (by decide))) (ie_eq (ie_list (we_o (oe_cat (we_o (oe_lstN (wle_cons (we_var rfl) wle_nil) (asLenS asLen0) (by decide))) (we_var rfl)))) rfl) (fun s2 x3 => (a_name rfl ⟨(wlen 5 (by exact rfl) (by exact rfl) (by decide)), ?_⟩)) fun s11 => ?_
  · refine zm_last ?_
    refine zm_set (i := 2) rfl (by decide) (we_eq (we_catS (we_catS (we_var rfl) (we_repS we_str (we_sub (re_w we_int) (re_w (we_lenStr (re_w (we_strI (re_w (we_var rfl))))))))) (we_strI (re_w (we_var rfl)))) rfl) fun row_here_10 => ?_
    exact zm_nextL rfl
  · refine zm_join [] (fun s16 => [(.val dInt place), (.val (dList (d := dInt)) counts_here), (.val dStr s16), .no, .no]) (fun _ => (wlen 5 (by exact rfl) (by exact rfl) (by decide))) ?_ fun s16 => ?_
    · refine zm_last (zm_if (te_eq (te_test (we_gt (re_w (we_len (re_w (we_o (oe_lc (tg_name' (by decide)) (ic_list (we_var rfl)) fun x12 => (a_name rfl ⟨(te_test (we_gt (re_w (we_var rfl)) (re_w we_int))), (we_var rfl)⟩)))))) (re_w we_int))) rfl) ?_ ?_)
      · refine zm_set (i := 2) rfl (by decide) (we_eq (we_catS (we_var rfl) we_str) rfl) fun row_here_15 => ?_
        exact zm_nextJ rfl
      · refine zm_skip ?_
        exact zm_nextJ rfl
    · refine zm_last ?_
      exact zm_ret (we_eq (we_var rfl) rfl)
end K00

namespace K00
open PySem L2 G PM
set_option maxHeartbeats 4000000 in
theorem ok_m_WebX_containsX {P : Program} {w : World} {K : PySem.W.Frag} {mg : Str → Option Value} {base : Heap} (T : Txt K mg) : FnOk P w K mg base (L2.CX P w) 1 T.a_m_WebX_containsX T.f_m_WebX_containsX ["self", "place"] (sp_m_WebX_containsX ⟨P, w, K⟩ T.A) := by
  have nd := sc_m_WebX_containsX.nd
  refine T.F_m_WebX_containsX.okX sc_m_WebX_containsX (fun vs H Q E h => ?_) (fun cdv A outer s H vs Q E hr h => ?_)
  · exact sp_m_WebX_containsX_len h
  have hu := hu_of hr
  refine ⟨_, (pss_one (ps_ret (pe_chain op_le op_lt pe_int (pv 1) (pe_callB (len_K K) (by rfl) T.b_len (by decide +kernel) (pa_cons (fld_K K (pv 0) rfl) pa_nil))))), ?_⟩
  try dsimp only [cxOf]
  obtain ⟨self, place, nb, h⟩ := h
  refine Zm.body (js := [0, 1]) (m := m_WebX_containsX_m self place) nb h ?_
  refine zm_to (Γ2 := [(.val (dWeb T.A) self), (.val dInt place)]) rfl ?_
  delta m_WebX_containsX_m
  refine zm_last ?_
  exact zm_ret (we_eq (we_chainP (re_w we_int) (re_w (we_var rfl)) (re_w (we_lenT (re_w (we_fld (isF_Web_sides T.A) T.c_Web T.n_Web_sides (we_var rfl)))))) rfl)
end K00

namespace K00
open PySem L2 G PM
set_option maxHeartbeats 4000000 in
theorem ok_m_Web_steps_from {P : Program} {w : World} {K : PySem.W.Frag} {mg : Str → Option Value} {base : Heap} (T : Txt K mg) (G_m_WebX_containsX : FnOk P w K mg base (L2.CX P w) 1 T.a_m_WebX_containsX T.f_m_WebX_containsX ["self", "place"] (sp_m_WebX_containsX ⟨P, w, K⟩ T.A)) (G_x_UnknownPlace : FnOk P w K mg base (L2.CX P w) 1 T.i_UnknownPlace T.fx_UnknownPlace ["self", "place"] (spX1 (T.A.tx .UnknownPlace) "place")) : FnOk P w K mg base (L2.CX P w) 3 T.a_m_Web_steps_from T.f_m_Web_steps_from ["self", "place"] (sp_m_Web_steps_from ⟨P, w, K⟩ T.A) := by
  have nd := sc_m_Web_steps_from.nd
  refine T.F_m_Web_steps_from.okX sc_m_Web_steps_from (fun vs H Q E h => ?_) (fun cdv A outer s H vs Q E hr h => ?_)
  · exact sp_m_Web_steps_from_len h
  have hu := hu_of hr
  refine ⟨_, (pss_cons (ps_if (pt_cmpR (op_niO T.me_m_WebX_containsX G_m_WebX_containsX (hr.mono (by decide)) T.d_m_WebX_containsX (fun σ => passFS σ)) (pv 1) (pv 0) (by with_unfolding_all rfl))
        (pss_one (ps_raise rfl (takes_of rfl rfl rfl rfl) (pmk_oex T.x_UnknownPlace.T T.x_UnknownPlace.init T.x_UnknownPlace.fn G_x_UnknownPlace (hr.mono (by decide)) T.dx_UnknownPlace .nil passF (by rfl) T.g_UnknownPlace (pa_cons (pv 1) pa_nil))))
        pss_nil)
      (pss_cons (ps_set (i := 2) nd rfl (Or.inl rfl) (pe_lst pa_nil))
      (pss_cons (ps_for (passes_of rfl) rfl (pi_enumT (by rfl) T.b_enumerate (pa_cons (fld_K K (pv 0) rfl) pa_nil)) (pg_tupK (n := 2) K (by rfl) (pgs_cons (pg_name (i := 3) nd rfl (Or.inl rfl)) (pgs_cons (pg_tupK (n := 4) K (by rfl) (pgs_cons (pg_name (i := 4) nd rfl (Or.inl rfl)) (pgs_cons (pg_name (i := 5) nd rfl (Or.inl rfl)) (pgs_cons (pg_name (i := 6) nd rfl (Or.inl rfl)) (pgs_cons (pg_name (i := 5) nd rfl (Or.inl rfl)) pgs_nil))))) pgs_nil)))
        (pss_cons (ps_if (pt_cmpR op_eq (pv 4) (pv 1) (nomark _))
        (pss_one (ps_expr (bm_K K PySem.F.plainAttrs_list PySem.F.slot_list_append PySem.F.type_list_append mt_append (pv 2) (pa_cons (pe_tup (pa_cons (pv 3) (pa_cons pe_int pa_nil))) pa_nil))))
        pss_nil)
      (pss_one (ps_if (pt_cmpR op_eq (pv 6) (pv 1) (nomark _))
        (pss_one (ps_expr (bm_K K PySem.F.plainAttrs_list PySem.F.slot_list_append PySem.F.type_list_append mt_append (pv 2) (pa_cons (pe_tup (pa_cons (pv 3) (pa_cons pe_int pa_nil))) pa_nil))))
        pss_nil))))
      (pss_one (ps_ret (pv 2)))))), ?_⟩
  try dsimp only [cxOf]
  obtain ⟨self, place, nb, h⟩ := h
  refine Zm.body (js := [0, 1, 2, 3, 4, 5, 6]) (m := m_Web_steps_from_m self place) nb h ?_
  refine zm_to (Γ2 := [(.val (dWeb T.A) self), (.val dInt place), .no, .no, .no, .no, .no]) rfl ?_
  delta m_Web_steps_from_m
  refine zm_if (te_eq (te_test (we_inO hs_m_WebX_containsX (isI_Web T.A) (we_var rfl) (we_var rfl))) rfl) ?_ ?_
  · exact zm_raise1 rfl rfl (re_eq (re_w (we_var rfl)) rfl)
  · refine zm_skip ?_
    refine zm_setO (i := 2) rfl (by decide) (oe_eq (oe_lst0 (d := (dPair (d1 := dInt) (d2 := dInt)))) rfl) fun found_2 => ?_
    refine zm_for [3, 4, 5, 6] (fun s3 => [(.val (dWeb T.A) self), (.val dInt place), (.own (dList (d := (dPair (d1 := dInt) (d2 := dInt)))) (oList (d := (dPair (d1 := dInt) (d2 := dInt)))) none s3), .no, .no, .no, .no]) found_2 (wlen 7 (by exact rfl) (by exact rfl) (by decide)) rfl (fun _ => (wlen 7 (by exact rfl) (by exact rfl) (by decide))) (ie_eq (ie_enumT (we_fld (isF_Web_ties T.A) T.c_Web T.n_Web_ties (we_var rfl))) rfl) (fun s3 x4 => (a_pair rfl (a_name rfl (a_T4 rfl (a_name rfl (a_name rfl (a_name rfl (a_name rfl ⟨(wlen 7 (by exact rfl) (by exact rfl) (by decide)), ?_⟩)))))))) fun s8 => ?_
    · refine zm_join [] (fun s6 => [(.val (dWeb T.A) self), (.val dInt place), (.own (dList (d := (dPair (d1 := dInt) (d2 := dInt)))) (oList (d := (dPair (d1 := dInt) (d2 := dInt)))) none s6), (.val dInt x4.1), (.val dInt x4.2.a), (.val dInt x4.2.d), (.val dInt x4.2.c)]) (fun _ => (wlen 7 (by exact rfl) (by exact rfl) (by decide))) ?_ fun s6 => ?_
      · refine zm_last (zm_ifP (te_eq (te_test (we_eqS (re_w (we_var rfl)) (re_w (we_var rfl)))) rfl) ?_ ?_)
        · refine zm_append (i := 2) rfl (by decide) (we_eq (we_tup2 (we_var rfl) we_int) rfl) fun found_5 => ?_
          exact zm_nextJ rfl
        · refine zm_skip ?_
          exact zm_nextJ rfl
      · refine zm_last ?_
        refine zm_ifP (te_eq (te_test (we_eqS (re_w (we_var rfl)) (re_w (we_var rfl)))) rfl) ?_ ?_
        · refine zm_append (i := 2) rfl (by decide) (we_eq (we_tup2 (we_var rfl) we_int) rfl) fun found_7 => ?_
          exact zm_nextL rfl
        · refine zm_skip ?_
          exact zm_nextL rfl
    · refine zm_last ?_
      exact zm_retV rfl
end K00

namespace K00
open PySem L2 G PM
set_option maxHeartbeats 4000000 in
theorem ok_m_Web_tail {P : Program} {w : World} {K : PySem.W.Frag} {mg : Str → Option Value} {base : Heap} (T : Txt K mg) (G_x_UnknownTie : FnOk P w K mg base (L2.CX P w) 1 T.i_UnknownTie T.fx_UnknownTie ["self", "tie"] (spX1 (T.A.tx .UnknownTie) "tie")) : FnOk P w K mg base (L2.CX P w) 3 T.a_m_Web_tail T.f_m_Web_tail ["self", "step"] (sp_m_Web_tail ⟨P, w, K⟩ T.A) := by
  have nd := sc_m_Web_tail.nd
  refine T.F_m_Web_tail.okX sc_m_Web_tail (fun vs H Q E h => ?_) (fun cdv A outer s H vs Q E hr h => ?_)
  · exact sp_m_Web_tail_len h
  have hu := hu_of hr
  refine ⟨_, (pss_cons (ps_asg (pv 1) (pg_tupK (n := 2) K (by rfl) (pgs_cons (pg_name (i := 2) nd rfl (Or.inl rfl)) (pgs_cons (pg_name (i := 3) nd rfl (Or.inl rfl)) pgs_nil))))
      (pss_cons (ps_if (PW.pt (pw_or (pt_cmpR op_lt (pv 2) pe_int (nomark _)) (pw_or1 (pt_cmpR op_ge (pv 2) (pe_callB (len_K K) (by rfl) T.b_len (by decide +kernel) (pa_cons (fld_K K (pv 0) rfl) pa_nil)) (nomark _)))))
        (pss_one (ps_raise rfl (takes_of rfl rfl rfl rfl) (pmk_oex T.x_UnknownTie.T T.x_UnknownTie.init T.x_UnknownTie.fn G_x_UnknownTie (hr.mono (by decide)) T.dx_UnknownTie .nil passF (by rfl) T.g_UnknownTie (pa_cons (pv 2) pa_nil))))
        pss_nil)
      (pss_cons (ps_asg (pe_ix (ix_tK K) (fld_K K (pv 0) rfl) (pv 2) (fun _ _ => rfl)) (pg_tupK (n := 4) K (by rfl) (pgs_cons (pg_name (i := 4) nd rfl (Or.inl rfl)) (pgs_cons (pg_name (i := 5) nd rfl (Or.inl rfl)) (pgs_cons (pg_name (i := 6) nd rfl (Or.inl rfl)) (pgs_cons (pg_name (i := 7) nd rfl (Or.inl rfl)) pgs_nil))))))
      (pss_cons (ps_if (pt_cmpR op_eq (pv 3) pe_int (nomark _))
        (pss_one (ps_ret (pe_tup (pa_cons (pv 4) (pa_cons (pv 5) pa_nil)))))
        pss_nil)
      (pss_one (ps_ret (pe_tup (pa_cons (pv 6) (pa_cons (pv 7) pa_nil))))))))), ?_⟩
  try dsimp only [cxOf]
  obtain ⟨self, step, nb, h⟩ := h
  refine Zm.body (js := [0, 1, 2, 3, 4, 5, 6, 7]) (m := m_Web_tail_m self step) nb h ?_
  refine zm_to (Γ2 := [(.val (dWeb T.A) self), (.val (dPair (d1 := dInt) (d2 := dInt)) step), .no, .no, .no, .no, .no, .no]) rfl ?_
  delta m_Web_tail_m
  refine zm_setG (we_eq (we_var rfl) rfl) fun t1 => (a_pair rfl (a_name rfl (a_name rfl ⟨(wlen 8 (by exact rfl) (by exact rfl) (by decide)), ?_⟩)))
  refine zm_ifP (te_eq (te_orP (te_test (we_lt (re_w (we_var rfl)) (re_w we_int))) (te_test (we_ge (re_w (we_var rfl)) (re_w (we_lenT (re_w (we_fld (isF_Web_ties T.A) T.c_Web T.n_Web_ties (we_var rfl)))))))) rfl) ?_ ?_
  · exact zm_raise1 rfl rfl (re_eq (re_w (we_var rfl)) rfl)
  · refine zm_skip ?_
    refine zm_setG (we_eq (we_ixT (we_fld (isF_Web_ties T.A) T.c_Web T.n_Web_ties (we_var rfl)) (re_w (we_var rfl))) rfl) fun t2 => (a_T4 rfl (a_name rfl (a_name rfl (a_name rfl (a_name rfl ⟨(wlen 8 (by exact rfl) (by exact rfl) (by decide)), ?_⟩)))))
    refine zm_ifP (te_eq (te_test (we_eqS (re_w (we_var rfl)) (re_w we_int))) rfl) ?_ ?_
    · exact zm_ret (we_eq (we_tup2 (we_var rfl) (we_var rfl)) rfl)
    · refine zm_skip ?_
      refine zm_last ?_
      exact zm_ret (we_eq (we_tup2 (we_var rfl) (we_var rfl)) rfl)
end K00

namespace K00
open PySem L2 G PM
set_option maxHeartbeats 4000000 in
theorem ok_m_Web_used_sides {P : Program} {w : World} {K : PySem.W.Frag} {mg : Str → Option Value} {base : Heap} (T : Txt K mg) (G_m_Web_steps_from : FnOk P w K mg base (L2.CX P w) 3 T.a_m_Web_steps_from T.f_m_Web_steps_from ["self", "place"] (sp_m_Web_steps_from ⟨P, w, K⟩ T.A)) (G_m_Web_tail : FnOk P w K mg base (L2.CX P w) 3 T.a_m_Web_tail T.f_m_Web_tail ["self", "step"] (sp_m_Web_tail ⟨P, w, K⟩ T.A)) : FnOk P w K mg base (L2.CX P w) 4 T.a_m_Web_used_sides T.f_m_Web_used_sides ["self", "place"] (sp_m_Web_used_sides ⟨P, w, K⟩ T.A) := by
  have nd := sc_m_Web_used_sides.nd
  refine T.F_m_Web_used_sides.okX sc_m_Web_used_sides (fun vs H Q E h => ?_) (fun cdv A outer s H vs Q E hr h => ?_)
  · exact sp_m_Web_used_sides_len h
  have hu := hu_of hr
  refine ⟨_, (pss_one (ps_ret (pe_callB (sortedS_w w rfl) (by rfl) T.b_sorted (by decide +kernel) (pa_cons (sci_w w (own := [("step", 2)]) (by rfl) nd (pi_lK K (pe_methE (pv 0) T.c_Web T.me_m_Web_steps_from G_m_Web_steps_from (hr.mono (by decide)) T.d_m_Web_steps_from (fun σ => passAt (takes_of rfl rfl rfl rfl) σ) (pa_cons (pv 1) pa_nil))) (blkOk_by (own := [("step", 2)]) (N := N_m_Web_used_sides) (sc := defScope s_m_Web_used_sides) (by decide +kernel)) (fun _ _ _ _ _ => (pg_name (i := 2) nd rfl (Or.inl rfl))) (fun _ _ _ _ _ => pts_nil) (fun _ _ _ _ _ => (pe_ix (ix_tK K) (pe_methE (pv 0) T.c_Web T.me_m_Web_tail G_m_Web_tail (hr.mono (by decide)) T.d_m_Web_tail (fun σ => passFS σ) (pa_cons (pv 2) pa_nil)) pe_int (fun _ _ => rfl)))) pa_nil)))), ?_⟩
  try dsimp only [cxOf]
  obtain ⟨self, place, nb, h⟩ := h
  refine Zm.body (js := [0, 1, 2]) (m := m_Web_used_sides_m self place) nb h ?_
  refine zm_to (Γ2 := [(.val (dWeb T.A) self), (.val dInt place), .no]) rfl ?_
  delta m_Web_used_sides_m
  refine zm_last ?_
  exact zm_retO (oe_eq (oe_sortS (re_w (we_o (oe_sc (tg_name' (by decide)) (we_o (oe_meth1 hs_m_Web_steps_from rfl (isI_Web T.A) (by decide) (we_var rfl) (we_var rfl))) fun x1 => (a_name rfl ⟨te_yes, (we_snd (we_meth1 hs_m_Web_tail rfl (isI_Web T.A) (by decide) (we_var rfl) (we_var rfl)))⟩))))) rfl)
end K00

namespace K00
open PySem L2 G PM
set_option maxHeartbeats 4000000 in
theorem ok_l_refused {P : Program} {w : World} {K : PySem.W.Frag} {mg : Str → Option Value} {base : Heap} (T : Txt K mg) (G_m_Web_used_sides : FnOk P w K mg base (L2.CX P w) 4 T.a_m_Web_used_sides T.f_m_Web_used_sides ["self", "place"] (sp_m_Web_used_sides ⟨P, w, K⟩ T.A)) : FnOk P w K mg base (L2.CX P w) 5 T.a_l_refused T.f_l_refused ["_law_web_here", "_law_number"] (sp_l_refused ⟨P, w, K⟩ T.A) := by
  have nd := sc_l_refused.nd
  refine T.F_l_refused.okX sc_l_refused (fun vs H Q E h => ?_) (fun cdv A outer s H vs Q E hr h => ?_)
  · exact sp_l_refused_len h
  have hu := hu_of hr
  refine ⟨_, (pss_one (try_as K (i := 2) rfl rfl nd rfl rfl ⟨rfl, by decide, .inl T.g_ComesapartError⟩ (takes_of rfl rfl rfl rfl) (fun W pn xe tk po => (pss_cons (ps_expr (pe_methE (pv 0) T.c_Web T.me_m_Web_used_sides G_m_Web_used_sides (hr.mono (by decide)) T.d_m_Web_used_sides (fun σ => passAt tk σ) (pa_cons (pv 1) pa_nil)))
      (pss_one (ps_ret pe_bl)))) (fun a oe cls d pn hz hf => (pss_one (ps_ret (pe_and (pe_callB (call_isX hz hf) (by rfl) T.b_isinstance (by decide +kernel) (pa_cons (pv 2) (pa_cons (pe_glob (v := .ref (T.A.tx .UnknownPlace)) (by rfl) T.g_UnknownPlace rfl) pa_nil))) (pe_and (pe_callB (call_isX hz hf) (by rfl) T.b_isinstance (by decide +kernel) (pa_cons (pv 2) (pa_cons (pe_bltn (v := .ty "ValueError") (by rfl) T.b_ValueError (by decide +kernel) rfl) pa_nil))) (pe_one (pe_cmpR op_eq (pe_xf T.xf_UnknownPlace T.no_UnknownPlace_place hz hf (pv 2)) (pv 1) (nomark _)))))))))), ?_⟩
  try dsimp only [cxOf]
  obtain ⟨web_here, number, nb, h⟩ := h
  refine Zm.body (js := [0, 1, 2]) (m := l_refused_m web_here number) nb h ?_
  refine zm_to (Γ2 := [(.val (dWeb T.A) web_here), (.val dInt number), .no]) rfl ?_
  delta l_refused_m
  refine zm_last ?_
  refine zm_tryT (js := [0, 1, 2]) [] (i := 2) rfl ⟨_, rfl⟩ (by decide) (by decide) T.hx_ComesapartError (fun W kb => ?_) (fun px1 a dd hkn hp => ?_)
  · refine zm_drop (re_eq (re_w (we_o (oe_meth1 hs_m_Web_used_sides rfl (isI_Web T.A) (by decide) (we_var rfl) (we_var rfl)))) rfl) ?_
    refine zm_last ?_
    exact zm_ret (we_eq we_bl rfl)
  · refine zm_last ?_
    exact zm_ret (we_eq (we_and (we_isX (b := fun c => XC.isA c .UnknownPlace) rfl hkn T.exc (fun u e => by cases e; rfl) T.kx_UnknownPlace) (we_and (we_isX (b := fun _ => true) rfl hkn T.exc (fun u e => by cases e; rfl) T.kx_ValueError) (we_eqS (re_w (we_xf rfl rfl)) (re_w (we_var rfl))))) rfl)
end K00

namespace K00
open PySem L2 G PM
set_option maxHeartbeats 4000000 in
theorem ok_m_Web_joints {P : Program} {w : World} {K : PySem.W.Frag} {mg : Str → Option Value} {base : Heap} (T : Txt K mg) (G_m_Web_used_sides : FnOk P w K mg base (L2.CX P w) 4 T.a_m_Web_used_sides T.f_m_Web_used_sides ["self", "place"] (sp_m_Web_used_sides ⟨P, w, K⟩ T.A)) : FnOk P w K mg base (L2.CX P w) 5 T.a_m_Web_joints T.f_m_Web_joints ["self"] (sp_m_Web_joints ⟨P, w, K⟩ T.A) := by
  have nd := sc_m_Web_joints.nd
  refine T.F_m_Web_joints.okX sc_m_Web_joints (fun vs H Q E h => ?_) (fun cdv A outer s H vs Q E hr h => ?_)
  · exact sp_m_Web_joints_len h
  have hu := hu_of hr
  refine ⟨_, (pss_one (ps_ret (pe_callTy (tuple_K K) (by rfl) T.b_tuple (by decide +kernel) (pa_cons (pe_lc (own := [("place", 1)]) (by rfl) nd (pi_range1 (by rfl) T.b_range (pa_cons (pe_callB (len_K K) (by rfl) T.b_len (by decide +kernel) (pa_cons (fld_K K (pv 0) rfl) pa_nil)) pa_nil)) (blkOk_by (own := [("place", 1)]) (N := N_m_Web_joints) (sc := defScope s_m_Web_joints) (by decide +kernel)) (fun _ _ _ _ _ => (pg_name (i := 1) nd rfl (Or.inl rfl))) (fun _ _ _ _ _ => (pts_one (pt_cmpR op_gt (pe_callB (len_K K) (by rfl) T.b_len (by decide +kernel) (pa_cons (pe_methE (pv 0) T.c_Web T.me_m_Web_used_sides G_m_Web_used_sides (hr.mono (by decide)) T.d_m_Web_used_sides (fun σ => passFS σ) (pa_cons (pv 1) pa_nil)) pa_nil)) pe_int (nomark _)))) (fun _ _ _ _ _ => (pv 1))) pa_nil)))), ?_⟩
  try dsimp only [cxOf]
  obtain ⟨self, nb, h⟩ := h
  refine Zm.body (js := [0, 1]) (m := m_Web_joints_m self) nb h ?_
  refine zm_to (Γ2 := [(.val (dWeb T.A) self), .no]) rfl ?_
  delta m_Web_joints_m
  refine zm_last ?_
  exact zm_ret (we_eq (we_tupOf (we_o (oe_lc (tg_name' (by decide)) (ic_range (re_w (we_lenT (re_w (we_fld (isF_Web_sides T.A) T.c_Web T.n_Web_sides (we_var rfl)))))) fun x1 => (a_name rfl ⟨(te_test (we_gt (re_w (we_len (re_w (we_o (oe_meth1 hs_m_Web_used_sides rfl (isI_Web T.A) (by decide) (we_var rfl) (we_var rfl)))))) (re_w we_int))), (we_var rfl)⟩)))) rfl)
end K00

namespace K00
open PySem L2 G PM
set_option maxHeartbeats 4000000 in
theorem ok_l_right_sides {P : Program} {w : World} {K : PySem.W.Frag} {mg : Str → Option Value} {base : Heap} (T : Txt K mg) (G_m_Web_used_sides : FnOk P w K mg base (L2.CX P w) 4 T.a_m_Web_used_sides T.f_m_Web_used_sides ["self", "place"] (sp_m_Web_used_sides ⟨P, w, K⟩ T.A)) (G_l_numbers : FnOk P w K mg base (L2.CX P w) 2 T.a_l_numbers T.f_l_numbers ["_law_told", "_law_due"] (sp_l_numbers ⟨P, w, K⟩ T.A)) (G_l_refused : FnOk P w K mg base (L2.CX P w) 5 T.a_l_refused T.f_l_refused ["_law_web_here", "_law_number"] (sp_l_refused ⟨P, w, K⟩ T.A)) (G_m_Web_joints : FnOk P w K mg base (L2.CX P w) 5 T.a_m_Web_joints T.f_m_Web_joints ["self"] (sp_m_Web_joints ⟨P, w, K⟩ T.A)) : FnOk P w K mg base (L2.CX P w) 7 T.a_l_right_sides T.f_l_right_sides ["_law_web_here", "_law_counts_here"] (sp_l_right_sides ⟨P, w, K⟩ T.A) := by
  have nd := sc_l_right_sides.nd
  refine T.F_l_right_sides.okX sc_l_right_sides (fun vs H Q E h => ?_) (fun cdv A outer s H vs Q E hr h => ?_)
  · exact sp_l_right_sides_len h
  have hu := hu_of hr
  refine ⟨_, (pss_cons (ps_set (i := 2) nd rfl (Or.inl rfl) (pe_lst pa_nil))
      (pss_cons (ps_for (passes_of rfl) rfl (pi_range1 (by rfl) T.b_range (pa_cons (pe_callB (len_K K) (by rfl) T.b_len (by decide +kernel) (pa_cons (pv 1) pa_nil)) pa_nil)) (pg_name (i := 3) nd rfl (Or.inr rfl))
        (pss_cons (ps_setLc (i := 4) (own := [("_law_side", 7)]) (by rfl) nd rfl rfl (sw_true rfl rfl rfl (by decide +kernel)) (pi_range1 (by rfl) T.b_range (pa_cons (pe_callB (len_K K) (by rfl) T.b_len (by decide +kernel) (pa_cons (pe_ix (ix_lK K) (pv 1) (pv 3) (fun _ _ => rfl)) pa_nil)) pa_nil)) (blkOk_by (own := [("_law_side", 7)]) (N := N_l_right_sides) (sc := defScope s_l_right_sides) (by decide +kernel)) (fun _ _ _ _ _ => (pg_name (i := 7) nd rfl (Or.inl rfl))) (fun _ _ _ _ _ => (pts_one (pt_cmpR op_gt (pe_ix (ix_lK K) (pe_ix (ix_lK K) (pv 1) (pv 3) (fun _ _ => rfl)) (pv 7) (fun _ _ => rfl)) pe_int (nomark _)))) (fun _ _ _ _ _ => (pv 7)))
      (pss_cons (ps_set (i := 5) nd rfl (Or.inl rfl) (pe_methE (pv 0) T.c_Web T.me_m_Web_used_sides G_m_Web_used_sides (hr.mono (by decide)) T.d_m_Web_used_sides (fun σ => passAt (takes_of rfl rfl rfl rfl) σ) (pa_cons (pv 3) pa_nil)))
      (pss_cons (ps_if (pt_not (pt_val (pe_callS G_l_numbers (hr.mono (by decide)) (by rfl) T.g_l_numbers T.F_l_numbers.kp T.d_l_numbers (fun σ => passFS σ) (pa_cons (pv 5) (pa_cons (pv 4) pa_nil)))))
        (pss_one (ps_ret pe_bl))
        pss_nil)
      (pss_cons (ps_expr (bm_K K PySem.F.plainAttrs_list PySem.F.slot_list_append PySem.F.type_list_append mt_append (pv 5) (pa_cons pe_int pa_nil)))
      (pss_one (ps_if (pt_cmpR op_gt (pe_callB (len_K K) (by rfl) T.b_len (by decide +kernel) (pa_cons (pv 4) pa_nil)) pe_int (nomark _))
        (pss_one (ps_expr (bm_K K PySem.F.plainAttrs_list PySem.F.slot_list_append PySem.F.type_list_append mt_append (pv 2) (pa_cons (pv 3) pa_nil))))
        pss_nil)))))))
      (pss_cons (ps_for (passes_of rfl) rfl (pi_lK K (pe_lst (pa_cons (pe_un un_neg pe_int) (pa_cons (pe_callB (len_K K) (by rfl) T.b_len (by decide +kernel) (pa_cons (pv 1) pa_nil)) (pa_cons (pe_op op_add (pe_callB (len_K K) (by rfl) T.b_len (by decide +kernel) (pa_cons (pv 1) pa_nil)) pe_int) pa_nil))))) (pg_name (i := 6) nd rfl (Or.inl rfl))
        (pss_one (ps_if (pt_not (pt_val (pe_callS G_l_refused (hr.mono (by decide)) (by rfl) T.g_l_refused T.F_l_refused.kp T.d_l_refused (fun σ => passAt (takes_of rfl rfl rfl rfl) σ) (pa_cons (pv 0) (pa_cons (pv 6) pa_nil)))))
        (pss_one (ps_ret pe_bl))
        pss_nil)))
      (pss_one (ps_ret (pe_and (pe_callB (isi_K K) (by rfl) T.b_isinstance (by decide +kernel) (pa_cons (pe_prop (pv 0) T.c_Web T.p_m_Web_joints G_m_Web_joints (hr.mono (by decide)) T.d_m_Web_joints .nil passF rfl) (pa_cons (pe_bltn (v := .ty "tuple") (by rfl) T.b_tuple (by decide +kernel) rfl) pa_nil))) (pe_one (pe_callS G_l_numbers (hr.mono (by decide)) (by rfl) T.g_l_numbers T.F_l_numbers.kp T.d_l_numbers (fun σ => passAt (takes_of rfl rfl rfl rfl) σ) (pa_cons (pe_callTy (list_K K) (by rfl) T.b_list (by decide +kernel) (pa_cons (pe_prop (pv 0) T.c_Web T.p_m_Web_joints G_m_Web_joints (hr.mono (by decide)) T.d_m_Web_joints .nil passF rfl) pa_nil)) (pa_cons (pv 2) pa_nil)))))))))), ?_⟩
  try dsimp only [cxOf]
  obtain ⟨web_here, counts_here, nb, h⟩ := h
  refine Zm.body (js := [0, 1, 2, 3, 4, 5, 6, 7]) (m := l_right_sides_m web_here counts_here) nb h ?_
  refine zm_to (Γ2 := [(.val (dWeb T.A) web_here), (.val (dList (d := (dList (d := dInt)))) counts_here), .no, .no, .no, .no, .no, .no]) rfl ?_
  delta l_right_sides_m
  refine zm_setO (i := 2) rfl (by decide) (oe_eq (oe_lst0 (d := dInt)) rfl) fun joints_1 => ?_
  refine zm_forC [3, 4, 5] (fun s2 => [(.val (dWeb T.A) web_here), (.val (dList (d := (dList (d := dInt)))) counts_here), (.own (dList (d := dInt)) (oList (d := dInt)) none s2), .no, .no, .no, .no, .no]) (fun r => .val dBool r) joints_1 (wlen 8 (by exact rfl) (by exact rfl) (by decide)) rfl (fun _ => (wlen 8 (by exact rfl) (by exact rfl) (by decide))) (ie_eq (ie_range (re_w (we_len (re_w (we_var rfl))))) rfl) (fun s2 x3 => (a_name rfl ⟨(wlen 8 (by exact rfl) (by exact rfl) (by decide)), ?_⟩)) rt_KF fun s15 => ?_
  · refine zm_set (i := 4) rfl (by decide) (we_eq (we_o (oe_lc (tg_name' (by decide)) (ic_range (re_w (we_len (re_w (we_ix (we_var rfl) (re_w (we_var rfl))))))) fun x6 => (a_name rfl ⟨(te_test (we_gt (re_w (we_ix (we_ix (we_var rfl) (re_w (we_var rfl))) (re_w (we_var rfl)))) (re_w we_int))), (we_var rfl)⟩))) rfl) fun used_9 => ?_
    refine zm_setO (i := 5) rfl (by decide) (oe_eq (oe_meth1 hs_m_Web_used_sides rfl (isI_Web T.A) (by decide) (we_var rfl) (we_var rfl)) rfl) fun told_10 => ?_
    refine zm_if (te_eq (te_not (te_B (we_borrow 5 rfl (we_call2 hs_l_numbers rfl (we_var rfl) (we_var rfl))))) rfl) ?_ ?_
    · exact zm_retC (we_eq we_bl rfl)
    · refine zm_skip ?_
      refine zm_append (i := 5) rfl (by decide) (we_eq we_int rfl) fun told_12 => ?_
      refine zm_last ?_
      refine zm_ifP (te_eq (te_test (we_gt (re_w (we_len (re_w (we_var rfl)))) (re_w we_int))) rfl) ?_ ?_
      · refine zm_append (i := 2) rfl (by decide) (we_eq (we_var rfl) rfl) fun joints_13 => ?_
        exact zm_nextC rfl
      · refine zm_skip ?_
        exact zm_nextC rfl
  · refine zm_forC [6] (fun (_ : Unit) => [(.val (dWeb T.A) web_here), (.val (dList (d := (dList (d := dInt)))) counts_here), (.own (dList (d := dInt)) (oList (d := dInt)) none s15), .no, .no, .no, .no, .no]) (fun r => .val dBool r) () (wlen 8 (by exact rfl) (by exact rfl) (by decide)) rfl (fun _ => (wlen 8 (by exact rfl) (by exact rfl) (by decide))) (ie_eq (ie_list (we_o (oe_lstN (wle_cons (we_neg (re_w we_int)) (wle_cons (we_len (re_w (we_var rfl))) (wle_cons (we_add (re_w (we_len (re_w (we_var rfl)))) (re_w we_int)) wle_nil))) (asLenS (asLenS (asLenS asLen0))) (by decide)))) rfl) (fun _ x17 => (a_name rfl ⟨(wlen 8 (by exact rfl) (by exact rfl) (by decide)), ?_⟩)) rt_KF fun _ => ?_
    · refine zm_last ?_
      refine zm_if (te_eq (te_not (te_B (we_call2 hs_l_refused rfl (we_var rfl) (we_var rfl)))) rfl) ?_ ?_
      · exact zm_retC (we_eq we_bl rfl)
      · refine zm_skip ?_
        exact zm_nextC rfl
    · refine zm_last ?_
      refine zm_frz 2 rfl (by decide) ?_
      exact zm_ret (we_eq (we_and (we_isi (b := true) (kit_ty (by decide +kernel)) (re_w (we_prop hs_m_Web_joints (isI_Web T.A) (we_var rfl)))) (we_call2 hs_l_numbers rfl (we_o (oe_listOfT (we_prop hs_m_Web_joints (isI_Web T.A) (we_var rfl)))) (we_var rfl))) rfl)
end K00

namespace K00
open PySem L2 G PM
set_option maxHeartbeats 4000000 in
theorem ok_l_right {P : Program} {w : World} {K : PySem.W.Frag} {mg : Str → Option Value} {base : Heap} (T : Txt K mg) (G_l_counts : FnOk P w K mg base (L2.CX P w) 1 T.a_l_counts T.f_l_counts ["_law_sides", "_law_ties"] (sp_l_counts ⟨P, w, K⟩ T.A)) (G_p_end_counts : FnOk P w K mg base (L2.CX P w) 1 T.a_p_end_counts T.f_p_end_counts ["web"] (sp_p_end_counts ⟨P, w, K⟩ T.A)) (G_l_numbers : FnOk P w K mg base (L2.CX P w) 2 T.a_l_numbers T.f_l_numbers ["_law_told", "_law_due"] (sp_l_numbers ⟨P, w, K⟩ T.A)) (G_p_side_table : FnOk P w K mg base (L2.CX P w) 2 T.a_p_side_table T.f_p_side_table ["web"] (sp_p_side_table ⟨P, w, K⟩ T.A)) (G_l_row : FnOk P w K mg base (L2.CX P w) 1 T.a_l_row T.f_l_row ["_law_place", "_law_counts_here"] (sp_l_row ⟨P, w, K⟩ T.A)) (G_l_right_sides : FnOk P w K mg base (L2.CX P w) 7 T.a_l_right_sides T.f_l_right_sides ["_law_web_here", "_law_counts_here"] (sp_l_right_sides ⟨P, w, K⟩ T.A)) : FnOk P w K mg base (L2.CX P w) 8 T.a_l_right T.f_l_right ["_law_web_here", "_law_sides", "_law_ties"] (sp_l_right ⟨P, w, K⟩ T.A) := by
  have nd := sc_l_right.nd
  refine T.F_l_right.okX sc_l_right (fun vs H Q E h => ?_) (fun cdv A outer s H vs Q E hr h => ?_)
  · exact sp_l_right_len h
  have hu := hu_of hr
  refine ⟨_, (pss_cons (ps_set (i := 3) nd rfl (Or.inl rfl) (pe_callS G_l_counts (hr.mono (by decide)) (by rfl) T.g_l_counts T.F_l_counts.kp T.d_l_counts (fun σ => passAt (takes_of rfl rfl rfl rfl) σ) (pa_cons (pv 1) (pa_cons (pv 2) pa_nil))))
      (pss_cons (ps_set (i := 4) nd rfl (Or.inl rfl) (pe_callS G_p_end_counts (hr.mono (by decide)) (by rfl) T.g_p_end_counts T.F_p_end_counts.kp T.d_p_end_counts (fun σ => passAt (takes_of rfl rfl rfl rfl) σ) (pa_cons (pv 0) pa_nil)))
      (pss_cons (ps_if (PW.pt (pw_or (pt_not (pt_val (pe_callB (isi_K K) (by rfl) T.b_isinstance (by decide +kernel) (pa_cons (pv 4) (pa_cons (pe_bltn (v := .ty "list") (by rfl) T.b_list (by decide +kernel) rfl) pa_nil))))) (pw_or1 (pt_cmpR op_ne (pe_callB (len_K K) (by rfl) T.b_len (by decide +kernel) (pa_cons (pv 4) pa_nil)) (pe_callB (len_K K) (by rfl) T.b_len (by decide +kernel) (pa_cons (pv 3) pa_nil)) (nomark _)))))
        (pss_one (ps_ret pe_bl))
        pss_nil)
      (pss_cons (ps_for (passes_of rfl) rfl (pi_range1 (by rfl) T.b_range (pa_cons (pe_callB (len_K K) (by rfl) T.b_len (by decide +kernel) (pa_cons (pv 3) pa_nil)) pa_nil)) (pg_name (i := 5) nd rfl (Or.inl rfl))
        (pss_one (ps_if (pt_not (pt_val (pe_callS G_l_numbers (hr.mono (by decide)) (by rfl) T.g_l_numbers T.F_l_numbers.kp T.d_l_numbers (fun σ => passFS σ) (pa_cons (pe_ix (ix_lK K) (pv 4) (pv 5) (fun _ _ => rfl)) (pa_cons (pe_ix (ix_lK K) (pv 3) (pv 5) (fun _ _ => rfl)) pa_nil)))))
        (pss_one (ps_ret pe_bl))
        pss_nil)))
      (pss_cons (ps_set (i := 6) nd rfl (Or.inl rfl) (pe_callS G_p_side_table (hr.mono (by decide)) (by rfl) T.g_p_side_table T.F_p_side_table.kp T.d_p_side_table (fun σ => passAt (takes_of rfl rfl rfl rfl) σ) (pa_cons (pv 0) pa_nil)))
      (pss_cons (ps_if (PW.pt (pw_or (pt_not (pt_val (pe_callB (isi_K K) (by rfl) T.b_isinstance (by decide +kernel) (pa_cons (pv 6) (pa_cons (pe_bltn (v := .ty "list") (by rfl) T.b_list (by decide +kernel) rfl) pa_nil))))) (pw_or1 (pt_cmpR op_ne (pe_callB (len_K K) (by rfl) T.b_len (by decide +kernel) (pa_cons (pv 6) pa_nil)) (pe_callB (len_K K) (by rfl) T.b_len (by decide +kernel) (pa_cons (pv 3) pa_nil)) (nomark _)))))
        (pss_one (ps_ret pe_bl))
        pss_nil)
      (pss_cons (ps_for (passes_of rfl) rfl (pi_range1 (by rfl) T.b_range (pa_cons (pe_callB (len_K K) (by rfl) T.b_len (by decide +kernel) (pa_cons (pv 3) pa_nil)) pa_nil)) (pg_name (i := 5) nd rfl (Or.inl rfl))
        (pss_cons (ps_if (PW.pt (pw_or (pt_not (pt_val (pe_callB (isi_K K) (by rfl) T.b_isinstance (by decide +kernel) (pa_cons (pe_ix (ix_lK K) (pv 6) (pv 5) (fun _ _ => rfl)) (pa_cons (pe_bltn (v := .ty "str") (by rfl) T.b_str (by decide +kernel) rfl) pa_nil))))) (pw_or1 (pt_cmpR op_ne (pe_ix (ix_lK K) (pv 6) (pv 5) (fun _ _ => rfl)) (pe_callS G_l_row (hr.mono (by decide)) (by rfl) T.g_l_row T.F_l_row.kp T.d_l_row (fun σ => passAt (takes_of rfl rfl rfl rfl) σ) (pa_cons (pv 5) (pa_cons (pe_ix (ix_lK K) (pv 3) (pv 5) (fun _ _ => rfl)) pa_nil))) (nomark _)))))
        (pss_one (ps_ret pe_bl))
        pss_nil)
      (pss_one (ps_expr (bm_K K PySem.F.plainAttrs_list PySem.F.slot_list_append PySem.F.type_list_append mt_append (pe_ix (ix_lK K) (pv 4) (pv 5) (fun _ _ => rfl)) (pa_cons (pv 5) pa_nil))))))
      (pss_cons (ps_expr (bm_K K PySem.F.plainAttrs_list PySem.F.slot_list_append PySem.F.type_list_append mt_append (pv 4) (pa_cons (pe_lst pa_nil) pa_nil)))
      (pss_cons (ps_expr (bm_K K PySem.F.plainAttrs_list PySem.F.slot_list_append PySem.F.type_list_append mt_append (pv 6) (pa_cons pe_str pa_nil)))
      (pss_cons (ps_if (pt_not (pt_val (pe_callS G_l_right_sides (hr.mono (by decide)) (by rfl) T.g_l_right_sides T.F_l_right_sides.kp T.d_l_right_sides (fun σ => passAt (takes_of rfl rfl rfl rfl) σ) (pa_cons (pv 0) (pa_cons (pv 3) pa_nil)))))
        (pss_one (ps_ret pe_bl))
        pss_nil)
      (pss_one (ps_ret (pe_and (pe_cmpR (op_eqDK K (hu64 hr)) (pe_callTy (list_K K) (by rfl) T.b_list (by decide +kernel) (pa_cons (fld_K K (pv 0) rfl) pa_nil)) (pv 1) (nomark _)) (pe_one (pe_cmpR (op_eqDK K (hu64 hr)) (pe_callTy (list_K K) (by rfl) T.b_list (by decide +kernel) (pa_cons (fld_K K (pv 0) rfl) pa_nil)) (pv 2) (nomark _)))))))))))))))), ?_⟩
  try dsimp only [cxOf]
  obtain ⟨web_here, sides, ties, nb, h⟩ := h
  refine Zm.body (js := [0, 1, 2, 3, 4, 5, 6]) (m := l_right_m web_here sides ties) nb h ?_
  refine zm_to (Γ2 := [(.val (dWeb T.A) web_here), (.val (dList (d := dInt)) sides), (.val (dList (d := (dT4 (d1 := dInt) (d2 := dInt) (d3 := dInt) (d4 := dInt)))) ties), .no, .no, .no, .no]) rfl ?_
  delta l_right_m
  refine zm_set (i := 3) rfl (by decide) (we_eq (we_o (oe_call2 hs_l_counts rfl (we_var rfl) (we_var rfl))) rfl) fun counts_here_1 => ?_
  refine zm_setO (i := 4) rfl (by decide) (oe_eq (oe_call1 hs_p_end_counts rfl (we_var rfl)) rfl) fun told_2 => ?_
  refine zm_ifP (te_eq (te_orP (te_not (te_B (we_isi (b := true) (kit_ty (by decide +kernel)) (re_varO rfl)))) (te_test (we_neS (re_w (we_len (re_varO rfl))) (re_w (we_len (re_w (we_var rfl))))))) rfl) ?_ ?_
  · exact zm_ret (we_eq we_bl rfl)
  · refine zm_skip ?_
    refine zm_forC [5] (fun (_ : Unit) => [(.val (dWeb T.A) web_here), (.val (dList (d := dInt)) sides), (.val (dList (d := (dT4 (d1 := dInt) (d2 := dInt) (d3 := dInt) (d4 := dInt)))) ties), (.val (dList (d := (dList (d := dInt)))) counts_here_1), (.own (dList (d := (dList (d := dInt)))) (oDeep (oList (d := dInt))) none told_2), .no, .no]) (fun r => .val dBool r) () (wlen 7 (by exact rfl) (by exact rfl) (by decide)) rfl (fun _ => (wlen 7 (by exact rfl) (by exact rfl) (by decide))) (ie_eq (ie_range (re_w (we_len (re_w (we_var rfl))))) rfl) (fun _ x4 => (a_name rfl ⟨(wlen 7 (by exact rfl) (by exact rfl) (by decide)), ?_⟩)) rt_KF fun _ => ?_
    · refine zm_last ?_
      refine zm_if (te_eq (te_not (te_B (we_borrow 4 rfl (we_call2 hs_l_numbers rfl (we_ix (we_var rfl) (re_w (we_var rfl))) (we_ix (we_var rfl) (re_w (we_var rfl))))))) rfl) ?_ ?_
      · exact zm_retC (we_eq we_bl rfl)
      · refine zm_skip ?_
        exact zm_nextC rfl
    · refine zm_setO (i := 6) rfl (by decide) (oe_eq (oe_call1 hs_p_side_table rfl (we_var rfl)) rfl) fun rows_10 => ?_
      refine zm_ifP (te_eq (te_orP (te_not (te_B (we_isi (b := true) (kit_ty (by decide +kernel)) (re_varO rfl)))) (te_test (we_neS (re_w (we_len (re_varO rfl))) (re_w (we_len (re_w (we_var rfl))))))) rfl) ?_ ?_
      · exact zm_ret (we_eq we_bl rfl)
      · refine zm_skip ?_
        refine zm_forC [5] (fun s11 => [(.val (dWeb T.A) web_here), (.val (dList (d := dInt)) sides), (.val (dList (d := (dT4 (d1 := dInt) (d2 := dInt) (d3 := dInt) (d4 := dInt)))) ties), (.val (dList (d := (dList (d := dInt)))) counts_here_1), (.own (dList (d := (dList (d := dInt)))) (oDeep (oList (d := dInt))) none s11), .no, (.own (dList (d := dStr)) (oList (d := dStr)) none rows_10)]) (fun r => .val dBool r) told_2 (wlen 7 (by exact rfl) (by exact rfl) (by decide)) rfl (fun _ => (wlen 7 (by exact rfl) (by exact rfl) (by decide))) (ie_eq (ie_range (re_w (we_len (re_w (we_var rfl))))) rfl) (fun s11 x12 => (a_name rfl ⟨(wlen 7 (by exact rfl) (by exact rfl) (by decide)), ?_⟩)) rt_KF fun s21 => ?_
        · refine zm_if (te_eq (te_or (te_not (te_B (we_isi (b := true) (kit_ty (by decide +kernel)) (re_w (we_ixO rfl (re_w (we_var rfl))))))) (te_test (we_neS (re_w (we_ixO rfl (re_w (we_var rfl)))) (re_w (we_call2 hs_l_row rfl (we_var rfl) (we_ix (we_var rfl) (re_w (we_var rfl)))))))) rfl) ?_ ?_
          · exact zm_retC (we_eq we_bl rfl)
          · refine zm_skip ?_
            refine zm_last ?_
            refine zm_appendIx (i := 4) rfl (by decide) (re_eq (re_w (we_var rfl)) rfl) (we_eq (we_var rfl) rfl) fun told_19 => ?_
            exact zm_nextC rfl
        · refine zm_pushO (i := 4) rfl (by decide) (oe_eq (oe_lst0 (d := dInt)) rfl) fun told_22 => ?_
          refine zm_append (i := 6) rfl (by decide) (we_eq we_str rfl) fun rows_23 => ?_
          refine zm_if (te_eq (te_not (te_B (we_call2 hs_l_right_sides rfl (we_var rfl) (we_var rfl)))) rfl) ?_ ?_
          · exact zm_ret (we_eq we_bl rfl)
          · refine zm_skip ?_
            refine zm_last ?_
            exact zm_ret (we_eq (we_andP (we_eqD (by decide) (re_w (we_o (oe_listOfT (we_fld (isF_Web_sides T.A) T.c_Web T.n_Web_sides (we_var rfl))))) (re_w (we_var rfl))) (we_eqD (by decide) (re_w (we_o (oe_listOfT (we_fld (isF_Web_ties T.A) T.c_Web T.n_Web_ties (we_var rfl))))) (re_w (we_var rfl)))) rfl)
end K00

namespace K00
open PySem L2 G PM
set_option maxHeartbeats 4000000 in
theorem ok_law {P : Program} {w : World} {K : PySem.W.Frag} {mg : Str → Option Value} {base : Heap} (T : Txt K mg) (G_l_cell : FnOk P w K mg base (L2.CX P w) 1 T.a_l_cell T.f_l_cell ["_law_script", "_law_k"] (sp_l_cell ⟨P, w, K⟩ T.A)) (G_l_draws : FnOk P w K mg base (L2.CX P w) 1 T.a_l_draws T.f_l_draws ["_law_cell_here", "_law_many"] (sp_l_draws ⟨P, w, K⟩ T.A)) (G_l_web : FnOk P w K mg base (L2.CX P w) 2 T.a_l_web T.f_l_web ["_law_draws_here", "_law_most_places", "_law_most_ties"] (sp_l_web ⟨P, w, K⟩ T.A)) (G_l_pick : FnOk P w K mg base (L2.CX P w) 1 T.a_l_pick T.f_l_pick ["_law_draws_here", "_law_k", "_law_many"] (sp_l_pick ⟨P, w, K⟩ T.A)) (G_m_WebX_initX : FnOk P w K mg base (L2.CX P w) 4 T.a_m_WebX_initX T.f_m_WebX_initX ["self", "sides", "ties"] (sp_m_WebX_initX ⟨P, w, K⟩ T.A)) (G_l_right : FnOk P w K mg base (L2.CX P w) 8 T.a_l_right T.f_l_right ["_law_web_here", "_law_sides", "_law_ties"] (sp_l_right ⟨P, w, K⟩ T.A)) : FnOk P w K mg base CX0 9 T.a_law T.f_law ["_law_script"] (sp_law ⟨P, w, K⟩) := by
  have nd := sc_law.nd
  refine T.F_law.ok sc_law (fun vs H Q E h => ?_) (fun cdv A outer s H vs Q E hr h => ?_)
  · exact sp_law_len h
  have hu := hu_of hr
  refine ⟨_, (pss_cons (ps_asg (pe_callS G_l_web (hr.mono (by decide)) (by rfl) T.g_l_web T.F_l_web.kp T.d_l_web (fun σ => passFS σ) (pa_cons (pe_callS G_l_draws (hr.mono (by decide)) (by rfl) T.g_l_draws T.F_l_draws.kp T.d_l_draws (fun σ => passFS σ) (pa_cons (pe_callS G_l_cell (hr.mono (by decide)) (by rfl) T.g_l_cell T.F_l_cell.kp T.d_l_cell (fun σ => passFS σ) (pa_cons (pv 0) (pa_cons pe_int pa_nil))) (pa_cons pe_int pa_nil))) (pa_cons pe_int (pa_cons pe_int pa_nil)))) (pg_tupK (n := 2) K (by rfl) (pgs_cons (pg_name (i := 1) nd rfl (Or.inl rfl)) (pgs_cons (pg_name (i := 2) nd rfl (Or.inl rfl)) pgs_nil))))
      (pss_cons (ps_asg (pe_callS G_l_web (hr.mono (by decide)) (by rfl) T.g_l_web T.F_l_web.kp T.d_l_web (fun σ => passFS σ) (pa_cons (pe_callS G_l_draws (hr.mono (by decide)) (by rfl) T.g_l_draws T.F_l_draws.kp T.d_l_draws (fun σ => passFS σ) (pa_cons (pe_callS G_l_cell (hr.mono (by decide)) (by rfl) T.g_l_cell T.F_l_cell.kp T.d_l_cell (fun σ => passFS σ) (pa_cons (pv 0) (pa_cons pe_int pa_nil))) (pa_cons pe_int pa_nil))) (pa_cons pe_int (pa_cons pe_int pa_nil)))) (pg_tupK (n := 2) K (by rfl) (pgs_cons (pg_name (i := 3) nd rfl (Or.inl rfl)) (pgs_cons (pg_name (i := 4) nd rfl (Or.inl rfl)) pgs_nil))))
      (pss_cons (ps_set (i := 5) nd rfl (Or.inl rfl) (pe_callS G_l_draws (hr.mono (by decide)) (by rfl) T.g_l_draws T.F_l_draws.kp T.d_l_draws (fun σ => passFS σ) (pa_cons (pe_callS G_l_cell (hr.mono (by decide)) (by rfl) T.g_l_cell T.F_l_cell.kp T.d_l_cell (fun σ => passFS σ) (pa_cons (pv 0) (pa_cons pe_int pa_nil))) (pa_cons pe_int pa_nil))))
      (pss_cons (ps_if (pt_cmpR op_eq (pe_callS G_l_pick (hr.mono (by decide)) (by rfl) T.g_l_pick T.F_l_pick.kp T.d_l_pick (fun σ => passFS σ) (pa_cons (pv 5) (pa_cons pe_int (pa_cons pe_int pa_nil)))) pe_int (nomark _))
        (pss_one (ps_set (i := 2) nd rfl (Or.inl rfl) (pe_op op_repR (pv 2) pe_int)))
        pss_nil)
      (pss_cons (ps_if (pt_cmpR op_eq (pe_callS G_l_pick (hr.mono (by decide)) (by rfl) T.g_l_pick T.F_l_pick.kp T.d_l_pick (fun σ => passFS σ) (pa_cons (pv 5) (pa_cons pe_int (pa_cons pe_int pa_nil)))) pe_int (nomark _))
        (pss_one (ps_set (i := 1) nd rfl (Or.inl rfl) (pe_op op_catR (pv 1) (pe_lc (own := [("_law_k", 8)]) (by rfl) nd (pi_range1 (by rfl) T.b_range (pa_cons (pe_op op_add (pe_op op_add pe_int (pe_callS G_l_pick (hr.mono (by decide)) (by rfl) T.g_l_pick T.F_l_pick.kp T.d_l_pick (fun σ => passFS σ) (pa_cons (pv 5) (pa_cons pe_int (pa_cons pe_int pa_nil))))) (pe_callS G_l_pick (hr.mono (by decide)) (by rfl) T.g_l_pick T.F_l_pick.kp T.d_l_pick (fun σ => passFS σ) (pa_cons (pv 5) (pa_cons pe_int (pa_cons pe_int pa_nil))))) pa_nil)) (blkOk_by (own := [("_law_k", 8)]) (N := N_law) (sc := defScope s_law) (by decide +kernel)) (fun _ _ _ _ _ => (pg_name (i := 8) nd rfl (Or.inl rfl))) (fun _ _ _ _ _ => pts_nil) (fun _ _ _ _ _ => pe_int)))))
        pss_nil)
      (pss_cons (ps_set (i := 6) nd rfl (Or.inl rfl) (pe_makeS T.mk_Web G_m_WebX_initX (hr.mono (by decide)) (by rfl) T.g_Web T.d_m_WebX_initX (fun σ => passFS σ) (pa_cons (pe_callTy (list_K K) (by rfl) T.b_list (by decide +kernel) (pa_cons (pv 1) pa_nil)) (pa_cons (pe_callTy (list_K K) (by rfl) T.b_list (by decide +kernel) (pa_cons (pv 2) pa_nil)) pa_nil))))
      (pss_cons (ps_set (i := 7) nd rfl (Or.inl rfl) (pe_makeS T.mk_Web G_m_WebX_initX (hr.mono (by decide)) (by rfl) T.g_Web T.d_m_WebX_initX (fun σ => passFS σ) (pa_cons (pe_callTy (list_K K) (by rfl) T.b_list (by decide +kernel) (pa_cons (pv 3) pa_nil)) (pa_cons (pe_callTy (list_K K) (by rfl) T.b_list (by decide +kernel) (pa_cons (pv 4) pa_nil)) pa_nil))))
      (pss_cons (ps_if (pt_not (pt_val (pe_callS G_l_right (hr.mono (by decide)) (by rfl) T.g_l_right T.F_l_right.kp T.d_l_right (fun σ => passFS σ) (pa_cons (pv 6) (pa_cons (pv 1) (pa_cons (pv 2) pa_nil))))))
        (pss_one (ps_ret pe_bl))
        pss_nil)
      (pss_one (ps_ret (pe_and (pe_callS G_l_right (hr.mono (by decide)) (by rfl) T.g_l_right T.F_l_right.kp T.d_l_right (fun σ => passFS σ) (pa_cons (pv 7) (pa_cons (pv 3) (pa_cons (pv 4) pa_nil)))) (pe_one (pe_callS G_l_right (hr.mono (by decide)) (by rfl) T.g_l_right T.F_l_right.kp T.d_l_right (fun σ => passFS σ) (pa_cons (pv 6) (pa_cons (pv 1) (pa_cons (pv 2) pa_nil)))))))))))))))), ?_⟩
  try dsimp only [cxOf]
  obtain ⟨script, e, h⟩ := h
  refine Zm.body0 (tx := T.A.tx) (js := [0, 1, 2, 3, 4, 5, 6, 7, 8]) (m := law_m script) e h ?_
  refine zm_to (Γ2 := [(.val (dSq (d := dInt)) script), .no, .no, .no, .no, .no, .no, .no, .no]) rfl ?_
  delta law_m
  refine zm_setG (we_eq (we_o (oe_call3 hs_l_web rfl (we_o (oe_call2 hs_l_draws rfl (we_call2 hs_l_cell rfl (we_var rfl) we_int) we_int)) we_int we_int)) rfl) fun t4 => (a_pair rfl (a_name rfl (a_name rfl ⟨(wlen 9 (by exact rfl) (by exact rfl) (by decide)), ?_⟩)))
  refine zm_setG (we_eq (we_o (oe_call3 hs_l_web rfl (we_o (oe_call2 hs_l_draws rfl (we_call2 hs_l_cell rfl (we_var rfl) we_int) we_int)) we_int we_int)) rfl) fun t8 => (a_pair rfl (a_name rfl (a_name rfl ⟨(wlen 9 (by exact rfl) (by exact rfl) (by decide)), ?_⟩)))
  refine zm_set (i := 5) rfl (by decide) (we_eq (we_o (oe_call2 hs_l_draws rfl (we_call2 hs_l_cell rfl (we_var rfl) we_int) we_int)) rfl) fun extra_10 => ?_
  refine zm_join [] (fun s13 => [(.val (dSq (d := dInt)) script), (.val (dList (d := dInt)) t4.1), (.val (dList (d := (dT4 (d1 := dInt) (d2 := dInt) (d3 := dInt) (d4 := dInt)))) s13), (.val (dList (d := dInt)) t8.1), (.val (dList (d := (dT4 (d1 := dInt) (d2 := dInt) (d3 := dInt) (d4 := dInt)))) t8.2), (.val (dList (d := dInt)) extra_10), .no, .no, .no]) (fun _ => (wlen 9 (by exact rfl) (by exact rfl) (by decide))) ?_ fun s13 => ?_
  · refine zm_last (zm_if (te_eq (te_test (we_eqS (re_w (we_call3 hs_l_pick rfl (we_var rfl) we_int we_int)) (re_w we_int))) rfl) ?_ ?_)
    · refine zm_set (i := 2) rfl (by decide) (we_eq (we_o (oe_rep (we_var rfl) (re_w we_int))) rfl) fun ties_12 => ?_
      exact zm_nextJ rfl
    · refine zm_skip ?_
      exact zm_nextJ rfl
  · refine zm_join [] (fun s22 => [(.val (dSq (d := dInt)) script), (.val (dList (d := dInt)) s22), (.val (dList (d := (dT4 (d1 := dInt) (d2 := dInt) (d3 := dInt) (d4 := dInt)))) s13), (.val (dList (d := dInt)) t8.1), (.val (dList (d := (dT4 (d1 := dInt) (d2 := dInt) (d3 := dInt) (d4 := dInt)))) t8.2), (.val (dList (d := dInt)) extra_10), .no, .no, .no]) (fun _ => (wlen 9 (by exact rfl) (by exact rfl) (by decide))) ?_ fun s22 => ?_
    · refine zm_last (zm_if (te_eq (te_test (we_eqS (re_w (we_call3 hs_l_pick rfl (we_var rfl) we_int we_int)) (re_w we_int))) rfl) ?_ ?_)
      · refine zm_set (i := 1) rfl (by decide) (we_eq (we_o (oe_cat (we_var rfl) (we_o (oe_lc (tg_name' (by decide)) (ic_range (re_w (we_add (re_w (we_add (re_w we_int) (re_w (we_call3 hs_l_pick rfl (we_var rfl) we_int we_int)))) (re_w (we_call3 hs_l_pick rfl (we_var rfl) we_int we_int))))) fun x19 => (a_name rfl ⟨te_yes, we_int⟩))))) rfl) fun sides_21 => ?_
        exact zm_nextJ rfl
      · refine zm_skip ?_
        exact zm_nextJ rfl
    · refine zm_set (i := 6) rfl (by decide) (we_eq (we_o (oe_make2 hs_m_WebX_initX rfl (we_o (oe_listOf (we_var rfl))) (we_o (oe_listOf (we_var rfl))))) rfl) fun first_23 => ?_
      refine zm_set (i := 7) rfl (by decide) (we_eq (we_o (oe_make2 hs_m_WebX_initX rfl (we_o (oe_listOf (we_var rfl))) (we_o (oe_listOf (we_var rfl))))) rfl) fun second_24 => ?_
      refine zm_if (te_eq (te_not (te_B (we_call3 hs_l_right rfl (we_var rfl) (we_var rfl) (we_var rfl)))) rfl) ?_ ?_
      · exact zm_ret (we_eq we_bl rfl)
      · refine zm_skip ?_
        refine zm_last ?_
        exact zm_ret (we_eq (we_and (we_call3 hs_l_right rfl (we_var rfl) (we_var rfl) (we_var rfl)) (we_call3 hs_l_right rfl (we_var rfl) (we_var rfl) (we_var rfl))) rfl)
end K00

namespace K00
open PySem L2 G PM
set_option maxHeartbeats 0 in
theorem all_mk {w : World} {K : PySem.W.Frag} {h : Heap} {mg : Str → Option Value} {fa : Addr} (X : K.In h) (G : h.Ns mainGlobals mg) (hfa : mg "law" = some (.ref fa))
    {C_Web : Addr}
    {t_Web_MOST_PLACES : _}
    {t_Web_MOST_SIDES : _}
    {t_Web_MOST_TIES : _}
    {D_BadSides : Addr}
    {D_ComesapartError : Addr}
    {D_TooLarge : Addr}
    {D_UnknownPlace : Addr}
    {D_UnknownSide : Addr}
    {D_UnknownTie : Addr}
    {od0 an0 : Option Addr} {sl0 : Array (Option Value)} {oc0 kV0 dc0 pm0 cd0 ct0 : Value} {f0 : Addr}
    {od1 an1 : Option Addr} {sl1 : Array (Option Value)} {oc1 kV1 dc1 pm1 cd1 ct1 : Value} {f1 : Addr}
    {od2 an2 : Option Addr} {sl2 : Array (Option Value)} {oc2 kV2 dc2 pm2 cd2 ct2 : Value} {f2 : Addr}
    {od3 an3 : Option Addr} {sl3 : Array (Option Value)} {oc3 kV3 dc3 pm3 cd3 ct3 : Value} {f3 : Addr}
    {od4 an4 : Option Addr} {sl4 : Array (Option Value)} {oc4 kV4 dc4 pm4 cd4 ct4 : Value} {f4 : Addr}
    {od5 an5 : Option Addr} {sl5 : Array (Option Value)} {oc5 kV5 dc5 pm5 cd5 ct5 : Value} {f5 : Addr}
    {od6 an6 : Option Addr} {sl6 : Array (Option Value)} {oc6 kV6 dc6 pm6 cd6 ct6 : Value} {f6 : Addr}
    {od7 an7 : Option Addr} {sl7 : Array (Option Value)} {oc7 kV7 dc7 pm7 cd7 ct7 : Value} {f7 : Addr}
    {od8 an8 : Option Addr} {sl8 : Array (Option Value)} {oc8 kV8 dc8 pm8 cd8 ct8 : Value} {f8 : Addr}
    {od9 an9 : Option Addr} {sl9 : Array (Option Value)} {oc9 kV9 dc9 pm9 cd9 ct9 : Value} {f9 : Addr}
    {od10 an10 : Option Addr} {sl10 : Array (Option Value)} {oc10 kV10 dc10 pm10 cd10 ct10 : Value} {f10 : Addr}
    {od11 an11 : Option Addr} {sl11 : Array (Option Value)} {oc11 kV11 dc11 pm11 cd11 ct11 : Value} {f11 : Addr}
    {od12 an12 : Option Addr} {sl12 : Array (Option Value)} {oc12 kV12 dc12 pm12 cd12 ct12 : Value} {f12 : Addr}
    {od13 an13 : Option Addr} {sl13 : Array (Option Value)} {oc13 kV13 dc13 pm13 cd13 ct13 : Value} {f13 : Addr}
    {od14 an14 : Option Addr} {sl14 : Array (Option Value)} {oc14 kV14 dc14 pm14 cd14 ct14 : Value} {f14 : Addr}
    {od15 an15 : Option Addr} {sl15 : Array (Option Value)} {oc15 kV15 dc15 pm15 cd15 ct15 : Value} {f15 : Addr}
    {od16 an16 : Option Addr} {sl16 : Array (Option Value)} {oc16 kV16 dc16 pm16 cd16 ct16 : Value} {f16 : Addr}
    {od17 an17 : Option Addr} {sl17 : Array (Option Value)} {oc17 kV17 dc17 pm17 cd17 ct17 : Value} {f17 : Addr}
    {r17 : Addr} {rest17 : List Value}
    {od18 an18 : Option Addr} {sl18 : Array (Option Value)} {oc18 kV18 dc18 pm18 cd18 ct18 : Value} {f18 : Addr}
    {od19 an19 : Option Addr} {sl19 : Array (Option Value)} {oc19 kV19 dc19 pm19 cd19 ct19 : Value} {f19 : Addr}
    {od20 an20 : Option Addr} {sl20 : Array (Option Value)} {oc20 kV20 dc20 pm20 cd20 ct20 : Value} {f20 : Addr}
    {xo_BadSides xd_BadSides : Option Addr} {xs_BadSides xt_BadSides xu_BadSides : Array (Option Value)} {xa_BadSides xb_BadSides xc_BadSides xdc_BadSides xpm_BadSides xct_BadSides : Value} {xf_BadSides cc_BadSides cda_BadSides : Addr} {xe_BadSides : Option Addr} {vs_BadSides : Array Value} {cdx_BadSides : ClassData}
    {nm_BadSides q_BadSides : Str} {N_BadSides : Addr} {bs_BadSides bm_BadSides : List Value} {sn_BadSides : _} {sub_BadSides : _} {ab_BadSides : _} {col_BadSides : _} {dd_BadSides : _} {k0_BadSides : _} {k1_BadSides : _} {k2_BadSides : _} {k3_BadSides : _} {k5_BadSides : _}
    {fl_BadSides : Str} {tf_BadSides : _}
    {xo_TooLarge xd_TooLarge : Option Addr} {xs_TooLarge xt_TooLarge xu_TooLarge : Array (Option Value)} {xa_TooLarge xb_TooLarge xc_TooLarge xdc_TooLarge xpm_TooLarge xct_TooLarge : Value} {xf_TooLarge cc_TooLarge cda_TooLarge : Addr} {xe_TooLarge : Option Addr} {vs_TooLarge : Array Value} {cdx_TooLarge : ClassData}
    {nm_TooLarge q_TooLarge : Str} {N_TooLarge : Addr} {bs_TooLarge bm_TooLarge : List Value} {sn_TooLarge : _} {sub_TooLarge : _} {ab_TooLarge : _} {col_TooLarge : _} {dd_TooLarge : _} {k0_TooLarge : _} {k1_TooLarge : _} {k2_TooLarge : _} {k3_TooLarge : _} {k5_TooLarge : _}
    {fl_TooLarge : Str} {tf_TooLarge : _}
    {xo_UnknownPlace xd_UnknownPlace : Option Addr} {xs_UnknownPlace xt_UnknownPlace xu_UnknownPlace : Array (Option Value)} {xa_UnknownPlace xb_UnknownPlace xc_UnknownPlace xdc_UnknownPlace xpm_UnknownPlace xct_UnknownPlace : Value} {xf_UnknownPlace cc_UnknownPlace cda_UnknownPlace : Addr} {xe_UnknownPlace : Option Addr} {vs_UnknownPlace : Array Value} {cdx_UnknownPlace : ClassData}
    {nm_UnknownPlace q_UnknownPlace : Str} {N_UnknownPlace : Addr} {bs_UnknownPlace bm_UnknownPlace : List Value} {sn_UnknownPlace : _} {sub_UnknownPlace : _} {ab_UnknownPlace : _} {col_UnknownPlace : _} {dd_UnknownPlace : _} {k0_UnknownPlace : _} {k1_UnknownPlace : _} {k2_UnknownPlace : _} {k3_UnknownPlace : _} {k5_UnknownPlace : _}
    {fl_UnknownPlace : Str} {tf_UnknownPlace : _}
    {xo_UnknownSide xd_UnknownSide : Option Addr} {xs_UnknownSide xt_UnknownSide xu_UnknownSide : Array (Option Value)} {xa_UnknownSide xb_UnknownSide xc_UnknownSide xdc_UnknownSide xpm_UnknownSide xct_UnknownSide : Value} {xf_UnknownSide cc_UnknownSide cda_UnknownSide : Addr} {xe_UnknownSide : Option Addr} {vs_UnknownSide : Array Value} {cdx_UnknownSide : ClassData}
    {nm_UnknownSide q_UnknownSide : Str} {N_UnknownSide : Addr} {bs_UnknownSide bm_UnknownSide : List Value} {sn_UnknownSide : _} {sub_UnknownSide : _} {ab_UnknownSide : _} {col_UnknownSide : _} {dd_UnknownSide : _} {k0_UnknownSide : _} {k1_UnknownSide : _} {k2_UnknownSide : _} {k3_UnknownSide : _} {k5_UnknownSide : _}
    {fl_UnknownSide : Str} {tf_UnknownSide : _}
    {xo_UnknownTie xd_UnknownTie : Option Addr} {xs_UnknownTie xt_UnknownTie xu_UnknownTie : Array (Option Value)} {xa_UnknownTie xb_UnknownTie xc_UnknownTie xdc_UnknownTie xpm_UnknownTie xct_UnknownTie : Value} {xf_UnknownTie cc_UnknownTie cda_UnknownTie : Addr} {xe_UnknownTie : Option Addr} {vs_UnknownTie : Array Value} {cdx_UnknownTie : ClassData}
    {nm_UnknownTie q_UnknownTie : Str} {N_UnknownTie : Addr} {bs_UnknownTie bm_UnknownTie : List Value} {sn_UnknownTie : _} {sub_UnknownTie : _} {ab_UnknownTie : _} {col_UnknownTie : _} {dd_UnknownTie : _} {k0_UnknownTie : _} {k1_UnknownTie : _} {k2_UnknownTie : _} {k3_UnknownTie : _} {k5_UnknownTie : _}
    {fl_UnknownTie : Str} {tf_UnknownTie : _}
    {cdy_ComesapartError : ClassData}
    {cdy_UnknownPlace : ClassData}
    (q0 : PySem.W.nsIn K mainGlobals "Web" = some (some (.ref C_Web)))
    (q1 : PySem.W.plainGet K C_Web Str.empty = true)
    (q2 : PySem.W.hasDictIn K C_Web = true)
    (q3 : PySem.W.plainOver K C_Web = true)
    (q4 : PySem.W.findIn K (.ref C_Web) "__setattr__" = some (some (.builtin "object.__setattr__")))
    (q5 : PySem.W.nsIn K PySem.cStatics "sys.int_max_str_digits" = some none)
    (q6 : PySem.W.findIn K (.ref C_Web) "sides" = some none)
    (q7 : PySem.W.findIn K (.ref C_Web) "ties" = some none)
    (q8 : PySem.W.findIn K (.ref C_Web) "MOST_PLACES" = some (some (.int 200 t_Web_MOST_PLACES)))
    (q9 : PySem.W.specialIn K (.int 200 t_Web_MOST_PLACES) "__get__" = some none)
    (q10 : PySem.W.findIn K (.ref C_Web) "MOST_SIDES" = some (some (.int 4 t_Web_MOST_SIDES)))
    (q11 : PySem.W.specialIn K (.int 4 t_Web_MOST_SIDES) "__get__" = some none)
    (q12 : PySem.W.findIn K (.ref C_Web) "MOST_TIES" = some (some (.int 300 t_Web_MOST_TIES)))
    (q13 : PySem.W.specialIn K (.int 300 t_Web_MOST_TIES) "__get__" = some none)
    (q14 : PySem.W.nsIn K mainGlobals "BadSides" = some (some (.ref D_BadSides)))
    (q15 : PySem.W.nsIn K mainGlobals "ComesapartError" = some (some (.ref D_ComesapartError)))
    (q16 : PySem.W.nsIn K mainGlobals "TooLarge" = some (some (.ref D_TooLarge)))
    (q17 : PySem.W.nsIn K mainGlobals "UnknownPlace" = some (some (.ref D_UnknownPlace)))
    (q18 : PySem.W.nsIn K mainGlobals "UnknownSide" = some (some (.ref D_UnknownSide)))
    (q19 : PySem.W.nsIn K mainGlobals "UnknownTie" = some (some (.ref D_UnknownTie)))
    (q20 : PySem.W.nsIn K mainGlobals "_law_cell" = some (some (.ref f0)))
    (q21 : K.lookup f0 = some ⟨oc0, od0, .func (PySem.W.fnOf "_law_cell" "_law_cell" (defArgs s_l_cell) (defBody s_l_cell) (defScope s_l_cell) .none kV0 dc0 pm0 an0 cd0 ct0), sl0⟩)
    (q22 : PySem.W.codeIn K cd0 "_law_cell" = true)
    (q23 : PySem.W.keepIn K (.ref f0) = true)
    (q24 : PySem.W.nsIn K mainGlobals "_law_draws" = some (some (.ref f1)))
    (q25 : K.lookup f1 = some ⟨oc1, od1, .func (PySem.W.fnOf "_law_draws" "_law_draws" (defArgs s_l_draws) (defBody s_l_draws) (defScope s_l_draws) .none kV1 dc1 pm1 an1 cd1 ct1), sl1⟩)
    (q26 : PySem.W.codeIn K cd1 "_law_draws" = true)
    (q27 : PySem.W.keepIn K (.ref f1) = true)
    (q28 : PySem.W.nsIn K mainGlobals "_law_pick" = some (some (.ref f2)))
    (q29 : K.lookup f2 = some ⟨oc2, od2, .func (PySem.W.fnOf "_law_pick" "_law_pick" (defArgs s_l_pick) (defBody s_l_pick) (defScope s_l_pick) .none kV2 dc2 pm2 an2 cd2 ct2), sl2⟩)
    (q30 : PySem.W.codeIn K cd2 "_law_pick" = true)
    (q31 : PySem.W.keepIn K (.ref f2) = true)
    (q32 : PySem.W.nsIn K mainGlobals "_law_web" = some (some (.ref f3)))
    (q33 : K.lookup f3 = some ⟨oc3, od3, .func (PySem.W.fnOf "_law_web" "_law_web" (defArgs s_l_web) (defBody s_l_web) (defScope s_l_web) .none kV3 dc3 pm3 an3 cd3 ct3), sl3⟩)
    (q34 : PySem.W.codeIn K cd3 "_law_web" = true)
    (q35 : PySem.W.keepIn K (.ref f3) = true)
    (q36 : PySem.W.nsIn K mainGlobals "check_end" = some (some (.ref f4)))
    (q37 : K.lookup f4 = some ⟨oc4, od4, .func (PySem.W.fnOf "check_end" "check_end" (defArgs s_p_check_end) (defBody s_p_check_end) (defScope s_p_check_end) .none kV4 dc4 pm4 an4 cd4 ct4), sl4⟩)
    (q38 : PySem.W.codeIn K cd4 "check_end" = true)
    (q39 : PySem.W.keepIn K (.ref f4) = true)
    (q40 : PySem.W.findIn K (.ref C_Web) "__init__" = some (some (.ref f5)))
    (q41 : PySem.W.isFn K (.ref f5) = true)
    (q42 : K.lookup f5 = some ⟨oc5, od5, .func (PySem.W.fnOf "__init__" "Web.__init__" (defArgs s_m_WebX_initX) (defBody s_m_WebX_initX) (defScope s_m_WebX_initX) .none kV5 dc5 pm5 an5 cd5 ct5), sl5⟩)
    (q43 : PySem.W.codeIn K cd5 "Web.__init__" = true)
    (q44 : PySem.W.keepIn K (.ref f5) = true)
    (q45 : PySem.W.makesIn K C_Web = true)
    (q46 : PySem.W.keepIn K (.ref C_Web) = true)
    (q47 : PySem.W.nsIn K mainGlobals "_law_counts" = some (some (.ref f6)))
    (q48 : K.lookup f6 = some ⟨oc6, od6, .func (PySem.W.fnOf "_law_counts" "_law_counts" (defArgs s_l_counts) (defBody s_l_counts) (defScope s_l_counts) .none kV6 dc6 pm6 an6 cd6 ct6), sl6⟩)
    (q49 : PySem.W.codeIn K cd6 "_law_counts" = true)
    (q50 : PySem.W.keepIn K (.ref f6) = true)
    (q51 : PySem.W.nsIn K mainGlobals "end_counts" = some (some (.ref f7)))
    (q52 : K.lookup f7 = some ⟨oc7, od7, .func (PySem.W.fnOf "end_counts" "end_counts" (defArgs s_p_end_counts) (defBody s_p_end_counts) (defScope s_p_end_counts) .none kV7 dc7 pm7 an7 cd7 ct7), sl7⟩)
    (q53 : PySem.W.codeIn K cd7 "end_counts" = true)
    (q54 : PySem.W.keepIn K (.ref f7) = true)
    (q55 : PySem.W.nsIn K mainGlobals "_law_is_number" = some (some (.ref f8)))
    (q56 : K.lookup f8 = some ⟨oc8, od8, .func (PySem.W.fnOf "_law_is_number" "_law_is_number" (defArgs s_l_is_number) (defBody s_l_is_number) (defScope s_l_is_number) .none kV8 dc8 pm8 an8 cd8 ct8), sl8⟩)
    (q57 : PySem.W.codeIn K cd8 "_law_is_number" = true)
    (q58 : PySem.W.keepIn K (.ref f8) = true)
    (q59 : PySem.W.nsIn K mainGlobals "_law_numbers" = some (some (.ref f9)))
    (q60 : K.lookup f9 = some ⟨oc9, od9, .func (PySem.W.fnOf "_law_numbers" "_law_numbers" (defArgs s_l_numbers) (defBody s_l_numbers) (defScope s_l_numbers) .none kV9 dc9 pm9 an9 cd9 ct9), sl9⟩)
    (q61 : PySem.W.codeIn K cd9 "_law_numbers" = true)
    (q62 : PySem.W.keepIn K (.ref f9) = true)
    (q63 : PySem.W.nsIn K mainGlobals "side_table" = some (some (.ref f10)))
    (q64 : K.lookup f10 = some ⟨oc10, od10, .func (PySem.W.fnOf "side_table" "side_table" (defArgs s_p_side_table) (defBody s_p_side_table) (defScope s_p_side_table) .none kV10 dc10 pm10 an10 cd10 ct10), sl10⟩)
    (q65 : PySem.W.codeIn K cd10 "side_table" = true)
    (q66 : PySem.W.keepIn K (.ref f10) = true)
    (q67 : PySem.W.nsIn K mainGlobals "_law_row" = some (some (.ref f11)))
    (q68 : K.lookup f11 = some ⟨oc11, od11, .func (PySem.W.fnOf "_law_row" "_law_row" (defArgs s_l_row) (defBody s_l_row) (defScope s_l_row) .none kV11 dc11 pm11 an11 cd11 ct11), sl11⟩)
    (q69 : PySem.W.codeIn K cd11 "_law_row" = true)
    (q70 : PySem.W.keepIn K (.ref f11) = true)
    (q71 : PySem.W.findIn K (.ref C_Web) "__contains__" = some (some (.ref f12)))
    (q72 : PySem.W.isFn K (.ref f12) = true)
    (q73 : K.lookup f12 = some ⟨oc12, od12, .func (PySem.W.fnOf "__contains__" "Web.__contains__" (defArgs s_m_WebX_containsX) (defBody s_m_WebX_containsX) (defScope s_m_WebX_containsX) .none kV12 dc12 pm12 an12 cd12 ct12), sl12⟩)
    (q74 : PySem.W.codeIn K cd12 "Web.__contains__" = true)
    (q75 : PySem.W.keepIn K (.ref f12) = true)
    (q76 : PySem.W.findIn K (.ref C_Web) "steps_from" = some (some (.ref f13)))
    (q77 : PySem.W.isFn K (.ref f13) = true)
    (q78 : K.lookup f13 = some ⟨oc13, od13, .func (PySem.W.fnOf "steps_from" "Web.steps_from" (defArgs s_m_Web_steps_from) (defBody s_m_Web_steps_from) (defScope s_m_Web_steps_from) .none kV13 dc13 pm13 an13 cd13 ct13), sl13⟩)
    (q79 : PySem.W.codeIn K cd13 "Web.steps_from" = true)
    (q80 : PySem.W.keepIn K (.ref f13) = true)
    (q81 : PySem.W.findIn K (.ref C_Web) "tail" = some (some (.ref f14)))
    (q82 : PySem.W.isFn K (.ref f14) = true)
    (q83 : K.lookup f14 = some ⟨oc14, od14, .func (PySem.W.fnOf "tail" "Web.tail" (defArgs s_m_Web_tail) (defBody s_m_Web_tail) (defScope s_m_Web_tail) .none kV14 dc14 pm14 an14 cd14 ct14), sl14⟩)
    (q84 : PySem.W.codeIn K cd14 "Web.tail" = true)
    (q85 : PySem.W.keepIn K (.ref f14) = true)
    (q86 : PySem.W.findIn K (.ref C_Web) "used_sides" = some (some (.ref f15)))
    (q87 : PySem.W.isFn K (.ref f15) = true)
    (q88 : K.lookup f15 = some ⟨oc15, od15, .func (PySem.W.fnOf "used_sides" "Web.used_sides" (defArgs s_m_Web_used_sides) (defBody s_m_Web_used_sides) (defScope s_m_Web_used_sides) .none kV15 dc15 pm15 an15 cd15 ct15), sl15⟩)
    (q89 : PySem.W.codeIn K cd15 "Web.used_sides" = true)
    (q90 : PySem.W.keepIn K (.ref f15) = true)
    (q91 : PySem.W.nsIn K mainGlobals "_law_refused" = some (some (.ref f16)))
    (q92 : K.lookup f16 = some ⟨oc16, od16, .func (PySem.W.fnOf "_law_refused" "_law_refused" (defArgs s_l_refused) (defBody s_l_refused) (defScope s_l_refused) .none kV16 dc16 pm16 an16 cd16 ct16), sl16⟩)
    (q93 : PySem.W.codeIn K cd16 "_law_refused" = true)
    (q94 : PySem.W.keepIn K (.ref f16) = true)
    (q95 : PySem.W.findIn K (.ref C_Web) "joints" = some (some (.ref r17)))
    (q96 : PySem.W.specialIn K (.ref r17) "__get__" = some (some (.builtin "property.__get__")))
    (q97 : PySem.W.takesIn K (.ref r17) = some true)
    (q98 : PySem.W.recIn K r17 "property" = some (.ref f17 :: rest17))
    (q99 : K.lookup f17 = some ⟨oc17, od17, .func (PySem.W.fnOf "joints" "Web.joints" (defArgs s_m_Web_joints) (defBody s_m_Web_joints) (defScope s_m_Web_joints) .none kV17 dc17 pm17 an17 cd17 ct17), sl17⟩)
    (q100 : PySem.W.codeIn K cd17 "Web.joints" = true)
    (q101 : PySem.W.keepIn K (.ref f17) = true)
    (q102 : PySem.W.nsIn K mainGlobals "_law_right_sides" = some (some (.ref f18)))
    (q103 : K.lookup f18 = some ⟨oc18, od18, .func (PySem.W.fnOf "_law_right_sides" "_law_right_sides" (defArgs s_l_right_sides) (defBody s_l_right_sides) (defScope s_l_right_sides) .none kV18 dc18 pm18 an18 cd18 ct18), sl18⟩)
    (q104 : PySem.W.codeIn K cd18 "_law_right_sides" = true)
    (q105 : PySem.W.keepIn K (.ref f18) = true)
    (q106 : PySem.W.nsIn K mainGlobals "_law_right" = some (some (.ref f19)))
    (q107 : K.lookup f19 = some ⟨oc19, od19, .func (PySem.W.fnOf "_law_right" "_law_right" (defArgs s_l_right) (defBody s_l_right) (defScope s_l_right) .none kV19 dc19 pm19 an19 cd19 ct19), sl19⟩)
    (q108 : PySem.W.codeIn K cd19 "_law_right" = true)
    (q109 : PySem.W.keepIn K (.ref f19) = true)
    (q110 : PySem.W.nsIn K mainGlobals "law" = some (some (.ref f20)))
    (q111 : K.lookup f20 = some ⟨oc20, od20, .func (PySem.W.fnOf "law" "law" (defArgs s_law) (defBody s_law) (defScope s_law) .none kV20 dc20 pm20 an20 cd20 ct20), sl20⟩)
    (q112 : PySem.W.codeIn K cd20 "law" = true)
    (q113 : PySem.W.keepIn K (.ref f20) = true)
    (q114 : PySem.W.nsIn K mainGlobals "super" = some none)
    (q115 : PySem.W.nsIn K PySem.cStatics "thirdparty.any" = some none)
    (q116 : K.lookup D_BadSides = some (excClassObj nm_BadSides q_BadSides D_BadSides N_BadSides bs_BadSides bm_BadSides true sn_BadSides sub_BadSides ab_BadSides col_BadSides dd_BadSides k0_BadSides k1_BadSides k2_BadSides k3_BadSides k5_BadSides "ValueError.__new__"))
    (q117 : PySem.HandSPX.refsVE bm_BadSides = true)
    (q118 : PySem.W.findIn K (.ref D_BadSides) "__setattr__" = some (some (.builtin "object.__setattr__")))
    (q119 : PySem.W.subIn K (.ref D_BadSides) (.type "BaseException") = some true)
    (q120 : PySem.W.typeIn K (.ref D_BadSides) = some (.type "type"))
    (q121 : PySem.W.keepIn K (.ref D_BadSides) = true)
    (q122 : PySem.W.clsIn K D_BadSides = some cdx_BadSides)
    (q123 : PySem.W.mroIn K D_BadSides (.ref D_BadSides) = some true)
    (q124 : PySem.W.ks_superIn K D_BadSides D_BadSides "__init__" = some (some (.builtin "ValueError.__init__")))
    (q125 : PySem.W.subIn K (.ref D_BadSides) (.type "ValueError") = some true)
    (q126 : PySem.W.findIn K (.ref D_BadSides) "__init__" = some (some (.ref xf_BadSides)))
    (q127 : PySem.W.typeIn K (.ref xf_BadSides) = some (.type "function"))
    (q128 : K.lookup xf_BadSides = some ⟨xa_BadSides, xo_BadSides, .func ((initNF "__init__" "BadSides.__init__" ((clsB (topS 8)).getD 0 (.Pass ⟨0, 0, 0, 0⟩)) cc_BadSides cda_BadSides).fd xdc_BadSides xpm_BadSides xct_BadSides), xs_BadSides⟩)
    (q129 : K.lookup cc_BadSides = some ⟨xb_BadSides, xd_BadSides, .cell (some (.ref D_BadSides)), xt_BadSides⟩)
    (q130 : K.lookup cda_BadSides = some ⟨xc_BadSides, xe_BadSides, .fields vs_BadSides, xu_BadSides⟩)
    (q131 : PySem.W.codeIn K (.ref cda_BadSides) "BadSides.__init__" = true)
    (q132 : vs_BadSides[2]? = some (.str fl_BadSides tf_BadSides))
    (q133 : ((PySem.Challenge.rw_comesapart_k00_ends_on_the_sides_of_plac.prog.main.file : Str) == fl_BadSides) = true)
    (q134 : PySem.W.findIn K (.ref D_BadSides) "place" = some none)
    (q135 : K.lookup D_TooLarge = some (excClassObj nm_TooLarge q_TooLarge D_TooLarge N_TooLarge bs_TooLarge bm_TooLarge true sn_TooLarge sub_TooLarge ab_TooLarge col_TooLarge dd_TooLarge k0_TooLarge k1_TooLarge k2_TooLarge k3_TooLarge k5_TooLarge "ValueError.__new__"))
    (q136 : PySem.HandSPX.refsVE bm_TooLarge = true)
    (q137 : PySem.W.findIn K (.ref D_TooLarge) "__setattr__" = some (some (.builtin "object.__setattr__")))
    (q138 : PySem.W.subIn K (.ref D_TooLarge) (.type "BaseException") = some true)
    (q139 : PySem.W.typeIn K (.ref D_TooLarge) = some (.type "type"))
    (q140 : PySem.W.keepIn K (.ref D_TooLarge) = true)
    (q141 : PySem.W.clsIn K D_TooLarge = some cdx_TooLarge)
    (q142 : PySem.W.mroIn K D_TooLarge (.ref D_TooLarge) = some true)
    (q143 : PySem.W.ks_superIn K D_TooLarge D_TooLarge "__init__" = some (some (.builtin "ValueError.__init__")))
    (q144 : PySem.W.subIn K (.ref D_TooLarge) (.type "ValueError") = some true)
    (q145 : PySem.W.findIn K (.ref D_TooLarge) "__init__" = some (some (.ref xf_TooLarge)))
    (q146 : PySem.W.typeIn K (.ref xf_TooLarge) = some (.type "function"))
    (q147 : K.lookup xf_TooLarge = some ⟨xa_TooLarge, xo_TooLarge, .func ((initNF "__init__" "TooLarge.__init__" ((clsB (topS 6)).getD 0 (.Pass ⟨0, 0, 0, 0⟩)) cc_TooLarge cda_TooLarge).fd xdc_TooLarge xpm_TooLarge xct_TooLarge), xs_TooLarge⟩)
    (q148 : K.lookup cc_TooLarge = some ⟨xb_TooLarge, xd_TooLarge, .cell (some (.ref D_TooLarge)), xt_TooLarge⟩)
    (q149 : K.lookup cda_TooLarge = some ⟨xc_TooLarge, xe_TooLarge, .fields vs_TooLarge, xu_TooLarge⟩)
    (q150 : PySem.W.codeIn K (.ref cda_TooLarge) "TooLarge.__init__" = true)
    (q151 : vs_TooLarge[2]? = some (.str fl_TooLarge tf_TooLarge))
    (q152 : ((PySem.Challenge.rw_comesapart_k00_ends_on_the_sides_of_plac.prog.main.file : Str) == fl_TooLarge) = true)
    (q153 : PySem.W.findIn K (.ref D_TooLarge) "limit" = some none)
    (q154 : K.lookup D_UnknownPlace = some (excClassObj nm_UnknownPlace q_UnknownPlace D_UnknownPlace N_UnknownPlace bs_UnknownPlace bm_UnknownPlace true sn_UnknownPlace sub_UnknownPlace ab_UnknownPlace col_UnknownPlace dd_UnknownPlace k0_UnknownPlace k1_UnknownPlace k2_UnknownPlace k3_UnknownPlace k5_UnknownPlace "ValueError.__new__"))
    (q155 : PySem.HandSPX.refsVE bm_UnknownPlace = true)
    (q156 : PySem.W.findIn K (.ref D_UnknownPlace) "__setattr__" = some (some (.builtin "object.__setattr__")))
    (q157 : PySem.W.subIn K (.ref D_UnknownPlace) (.type "BaseException") = some true)
    (q158 : PySem.W.typeIn K (.ref D_UnknownPlace) = some (.type "type"))
    (q159 : PySem.W.keepIn K (.ref D_UnknownPlace) = true)
    (q160 : PySem.W.clsIn K D_UnknownPlace = some cdx_UnknownPlace)
    (q161 : PySem.W.mroIn K D_UnknownPlace (.ref D_UnknownPlace) = some true)
    (q162 : PySem.W.ks_superIn K D_UnknownPlace D_UnknownPlace "__init__" = some (some (.builtin "ValueError.__init__")))
    (q163 : PySem.W.subIn K (.ref D_UnknownPlace) (.type "ValueError") = some true)
    (q164 : PySem.W.findIn K (.ref D_UnknownPlace) "__init__" = some (some (.ref xf_UnknownPlace)))
    (q165 : PySem.W.typeIn K (.ref xf_UnknownPlace) = some (.type "function"))
    (q166 : K.lookup xf_UnknownPlace = some ⟨xa_UnknownPlace, xo_UnknownPlace, .func ((initNF "__init__" "UnknownPlace.__init__" ((clsB (topS 7)).getD 0 (.Pass ⟨0, 0, 0, 0⟩)) cc_UnknownPlace cda_UnknownPlace).fd xdc_UnknownPlace xpm_UnknownPlace xct_UnknownPlace), xs_UnknownPlace⟩)
    (q167 : K.lookup cc_UnknownPlace = some ⟨xb_UnknownPlace, xd_UnknownPlace, .cell (some (.ref D_UnknownPlace)), xt_UnknownPlace⟩)
    (q168 : K.lookup cda_UnknownPlace = some ⟨xc_UnknownPlace, xe_UnknownPlace, .fields vs_UnknownPlace, xu_UnknownPlace⟩)
    (q169 : PySem.W.codeIn K (.ref cda_UnknownPlace) "UnknownPlace.__init__" = true)
    (q170 : vs_UnknownPlace[2]? = some (.str fl_UnknownPlace tf_UnknownPlace))
    (q171 : ((PySem.Challenge.rw_comesapart_k00_ends_on_the_sides_of_plac.prog.main.file : Str) == fl_UnknownPlace) = true)
    (q172 : PySem.W.findIn K (.ref D_UnknownPlace) "place" = some none)
    (q173 : K.lookup D_UnknownSide = some (excClassObj nm_UnknownSide q_UnknownSide D_UnknownSide N_UnknownSide bs_UnknownSide bm_UnknownSide true sn_UnknownSide sub_UnknownSide ab_UnknownSide col_UnknownSide dd_UnknownSide k0_UnknownSide k1_UnknownSide k2_UnknownSide k3_UnknownSide k5_UnknownSide "ValueError.__new__"))
    (q174 : PySem.HandSPX.refsVE bm_UnknownSide = true)
    (q175 : PySem.W.findIn K (.ref D_UnknownSide) "__setattr__" = some (some (.builtin "object.__setattr__")))
    (q176 : PySem.W.subIn K (.ref D_UnknownSide) (.type "BaseException") = some true)
    (q177 : PySem.W.typeIn K (.ref D_UnknownSide) = some (.type "type"))
    (q178 : PySem.W.keepIn K (.ref D_UnknownSide) = true)
    (q179 : PySem.W.clsIn K D_UnknownSide = some cdx_UnknownSide)
    (q180 : PySem.W.mroIn K D_UnknownSide (.ref D_UnknownSide) = some true)
    (q181 : PySem.W.ks_superIn K D_UnknownSide D_UnknownSide "__init__" = some (some (.builtin "ValueError.__init__")))
    (q182 : PySem.W.subIn K (.ref D_UnknownSide) (.type "ValueError") = some true)
    (q183 : PySem.W.findIn K (.ref D_UnknownSide) "__init__" = some (some (.ref xf_UnknownSide)))
    (q184 : PySem.W.typeIn K (.ref xf_UnknownSide) = some (.type "function"))
    (q185 : K.lookup xf_UnknownSide = some ⟨xa_UnknownSide, xo_UnknownSide, .func ((initNF "__init__" "UnknownSide.__init__" ((clsB (topS 9)).getD 0 (.Pass ⟨0, 0, 0, 0⟩)) cc_UnknownSide cda_UnknownSide).fd xdc_UnknownSide xpm_UnknownSide xct_UnknownSide), xs_UnknownSide⟩)
    (q186 : K.lookup cc_UnknownSide = some ⟨xb_UnknownSide, xd_UnknownSide, .cell (some (.ref D_UnknownSide)), xt_UnknownSide⟩)
    (q187 : K.lookup cda_UnknownSide = some ⟨xc_UnknownSide, xe_UnknownSide, .fields vs_UnknownSide, xu_UnknownSide⟩)
    (q188 : PySem.W.codeIn K (.ref cda_UnknownSide) "UnknownSide.__init__" = true)
    (q189 : vs_UnknownSide[2]? = some (.str fl_UnknownSide tf_UnknownSide))
    (q190 : ((PySem.Challenge.rw_comesapart_k00_ends_on_the_sides_of_plac.prog.main.file : Str) == fl_UnknownSide) = true)
    (q191 : PySem.W.findIn K (.ref D_UnknownSide) "place" = some none)
    (q192 : PySem.W.findIn K (.ref D_UnknownSide) "side" = some none)
    (q193 : K.lookup D_UnknownTie = some (excClassObj nm_UnknownTie q_UnknownTie D_UnknownTie N_UnknownTie bs_UnknownTie bm_UnknownTie true sn_UnknownTie sub_UnknownTie ab_UnknownTie col_UnknownTie dd_UnknownTie k0_UnknownTie k1_UnknownTie k2_UnknownTie k3_UnknownTie k5_UnknownTie "ValueError.__new__"))
    (q194 : PySem.HandSPX.refsVE bm_UnknownTie = true)
    (q195 : PySem.W.findIn K (.ref D_UnknownTie) "__setattr__" = some (some (.builtin "object.__setattr__")))
    (q196 : PySem.W.subIn K (.ref D_UnknownTie) (.type "BaseException") = some true)
    (q197 : PySem.W.typeIn K (.ref D_UnknownTie) = some (.type "type"))
    (q198 : PySem.W.keepIn K (.ref D_UnknownTie) = true)
    (q199 : PySem.W.clsIn K D_UnknownTie = some cdx_UnknownTie)
    (q200 : PySem.W.mroIn K D_UnknownTie (.ref D_UnknownTie) = some true)
    (q201 : PySem.W.ks_superIn K D_UnknownTie D_UnknownTie "__init__" = some (some (.builtin "ValueError.__init__")))
    (q202 : PySem.W.subIn K (.ref D_UnknownTie) (.type "ValueError") = some true)
    (q203 : PySem.W.findIn K (.ref D_UnknownTie) "__init__" = some (some (.ref xf_UnknownTie)))
    (q204 : PySem.W.typeIn K (.ref xf_UnknownTie) = some (.type "function"))
    (q205 : K.lookup xf_UnknownTie = some ⟨xa_UnknownTie, xo_UnknownTie, .func ((initNF "__init__" "UnknownTie.__init__" ((clsB (topS 10)).getD 0 (.Pass ⟨0, 0, 0, 0⟩)) cc_UnknownTie cda_UnknownTie).fd xdc_UnknownTie xpm_UnknownTie xct_UnknownTie), xs_UnknownTie⟩)
    (q206 : K.lookup cc_UnknownTie = some ⟨xb_UnknownTie, xd_UnknownTie, .cell (some (.ref D_UnknownTie)), xt_UnknownTie⟩)
    (q207 : K.lookup cda_UnknownTie = some ⟨xc_UnknownTie, xe_UnknownTie, .fields vs_UnknownTie, xu_UnknownTie⟩)
    (q208 : PySem.W.codeIn K (.ref cda_UnknownTie) "UnknownTie.__init__" = true)
    (q209 : vs_UnknownTie[2]? = some (.str fl_UnknownTie tf_UnknownTie))
    (q210 : ((PySem.Challenge.rw_comesapart_k00_ends_on_the_sides_of_plac.prog.main.file : Str) == fl_UnknownTie) = true)
    (q211 : PySem.W.findIn K (.ref D_UnknownTie) "tie" = some none)
    (q212 : PySem.W.findIn K (.ref D_UnknownPlace) "place" = some none)
    (q213 : PySem.W.findIn K (.ref D_UnknownPlace) "__getattribute__" = some (some (.builtin "BaseException.__getattribute__")))
    (q214 : PySem.W.findIn K (.ref D_UnknownPlace) "__getattr__" = some none)
    (q215 : PySem.W.subIn K (.ref D_UnknownPlace) (.type "BaseException") = some true)
    (q216 : PySem.W.hasDictIn K D_UnknownPlace = true)
    (q217 : PySem.W.specialIn K (.builtin "object.__class__") "__get__" = some (some (.builtin "getset_descriptor.__get__")))
    (q218 : PySem.W.takesIn K (.builtin "object.__class__") = some true)
    (q219 : PySem.W.findIn K (.ref D_BadSides) "__getattribute__" = some (some (.builtin "BaseException.__getattribute__")))
    (q220 : PySem.W.findIn K (.ref D_BadSides) "__getattr__" = some none)
    (q221 : PySem.W.subIn K (.ref D_BadSides) (.type "BaseException") = some true)
    (q222 : PySem.W.hasDictIn K D_BadSides = true)
    (q223 : PySem.W.findIn K (.ref D_BadSides) "__class__" = some (some (.builtin "object.__class__")))
    (q224 : PySem.W.mroIn K D_BadSides (.type "object") = some true)
    (q225 : PySem.W.findIn K (.ref D_TooLarge) "__getattribute__" = some (some (.builtin "BaseException.__getattribute__")))
    (q226 : PySem.W.findIn K (.ref D_TooLarge) "__getattr__" = some none)
    (q227 : PySem.W.subIn K (.ref D_TooLarge) (.type "BaseException") = some true)
    (q228 : PySem.W.hasDictIn K D_TooLarge = true)
    (q229 : PySem.W.findIn K (.ref D_TooLarge) "__class__" = some (some (.builtin "object.__class__")))
    (q230 : PySem.W.mroIn K D_TooLarge (.type "object") = some true)
    (q231 : PySem.W.findIn K (.ref D_UnknownPlace) "__getattribute__" = some (some (.builtin "BaseException.__getattribute__")))
    (q232 : PySem.W.findIn K (.ref D_UnknownPlace) "__getattr__" = some none)
    (q233 : PySem.W.subIn K (.ref D_UnknownPlace) (.type "BaseException") = some true)
    (q234 : PySem.W.hasDictIn K D_UnknownPlace = true)
    (q235 : PySem.W.findIn K (.ref D_UnknownPlace) "__class__" = some (some (.builtin "object.__class__")))
    (q236 : PySem.W.mroIn K D_UnknownPlace (.type "object") = some true)
    (q237 : PySem.W.findIn K (.ref D_UnknownSide) "__getattribute__" = some (some (.builtin "BaseException.__getattribute__")))
    (q238 : PySem.W.findIn K (.ref D_UnknownSide) "__getattr__" = some none)
    (q239 : PySem.W.subIn K (.ref D_UnknownSide) (.type "BaseException") = some true)
    (q240 : PySem.W.hasDictIn K D_UnknownSide = true)
    (q241 : PySem.W.findIn K (.ref D_UnknownSide) "__class__" = some (some (.builtin "object.__class__")))
    (q242 : PySem.W.mroIn K D_UnknownSide (.type "object") = some true)
    (q243 : PySem.W.findIn K (.ref D_UnknownTie) "__getattribute__" = some (some (.builtin "BaseException.__getattribute__")))
    (q244 : PySem.W.findIn K (.ref D_UnknownTie) "__getattr__" = some none)
    (q245 : PySem.W.subIn K (.ref D_UnknownTie) (.type "BaseException") = some true)
    (q246 : PySem.W.hasDictIn K D_UnknownTie = true)
    (q247 : PySem.W.findIn K (.ref D_UnknownTie) "__class__" = some (some (.builtin "object.__class__")))
    (q248 : PySem.W.mroIn K D_UnknownTie (.type "object") = some true)
    (q249 : PySem.W.clsIn K D_ComesapartError = some cdy_ComesapartError)
    (q250 : PySem.W.typeIn K (.ref D_ComesapartError) = some (.type "type"))
    (q251 : PySem.W.clsIn K D_UnknownPlace = some cdy_UnknownPlace)
    (q252 : PySem.W.typeIn K (.ref D_UnknownPlace) = some (.type "type"))
    (q253 : PySem.W.subIn K (.ref D_BadSides) (.ref D_ComesapartError) = some true)
    (q254 : PySem.W.subIn K (.ref D_BadSides) (.ref D_UnknownPlace) = some false)
    (q255 : PySem.W.subIn K (.ref D_TooLarge) (.ref D_ComesapartError) = some true)
    (q256 : PySem.W.subIn K (.ref D_TooLarge) (.ref D_UnknownPlace) = some false)
    (q257 : PySem.W.subIn K (.ref D_UnknownPlace) (.ref D_ComesapartError) = some true)
    (q258 : PySem.W.subIn K (.ref D_UnknownPlace) (.ref D_UnknownPlace) = some true)
    (q259 : PySem.W.subIn K (.ref D_UnknownSide) (.ref D_ComesapartError) = some true)
    (q260 : PySem.W.subIn K (.ref D_UnknownSide) (.ref D_UnknownPlace) = some false)
    (q261 : PySem.W.subIn K (.ref D_UnknownTie) (.ref D_ComesapartError) = some true)
    (q262 : PySem.W.subIn K (.ref D_UnknownTie) (.ref D_UnknownPlace) = some false)
    (q263 : PySem.W.subIn K (.ref D_ComesapartError) (.type "BaseException") = some true)
    (q264 : D_BadSides ≠ D_UnknownPlace)
    (q265 : D_TooLarge ≠ D_UnknownPlace)
    (q266 : D_UnknownSide ≠ D_UnknownPlace)
    (q267 : D_UnknownTie ≠ D_UnknownPlace)
    (q268 : PySem.W.subIn K (.ref D_BadSides) (.type "ValueError") = some true)
    (q269 : PySem.W.subIn K (.ref D_TooLarge) (.type "ValueError") = some true)
    (q270 : PySem.W.subIn K (.ref D_UnknownPlace) (.type "ValueError") = some true)
    (q271 : PySem.W.subIn K (.ref D_UnknownSide) (.type "ValueError") = some true)
    (q272 : PySem.W.subIn K (.ref D_UnknownTie) (.type "ValueError") = some true)
    (q273 : PySem.W.nsIn K mainGlobals "ValueError" = some none)
    (q274 : PySem.W.nsIn K mainGlobals "abs" = some none)
    (q275 : PySem.W.nsIn K mainGlobals "bool" = some none)
    (q276 : PySem.W.nsIn K mainGlobals "enumerate" = some none)
    (q277 : PySem.W.nsIn K mainGlobals "int" = some none)
    (q278 : PySem.W.nsIn K mainGlobals "isinstance" = some none)
    (q279 : PySem.W.nsIn K mainGlobals "len" = some none)
    (q280 : PySem.W.nsIn K mainGlobals "list" = some none)
    (q281 : PySem.W.nsIn K mainGlobals "range" = some none)
    (q282 : PySem.W.nsIn K mainGlobals "sorted" = some none)
    (q283 : PySem.W.nsIn K mainGlobals "str" = some none)
    (q284 : PySem.W.nsIn K mainGlobals "tuple" = some none)
    : ∃ fd : FuncData, (∀ (s : Shared) (v : Value), BindsTo s fd ⟨[v], []⟩ [("_law_script", v)]) ∧ ∀ base : Heap, K.In base → base.Ns mainGlobals mg → FnOk PySem.Challenge.rw_comesapart_k00_ends_on_the_sides_of_plac.prog w K mg base CX0 9 fa fd ["_law_script"] (sp_law ⟨PySem.Challenge.rw_comesapart_k00_ends_on_the_sides_of_plac.prog, w, K⟩) := by
  have e := hfa.symm.trans (PySem.W.mg_of X G q110)
  cases e
  have F0 := fun_mk (st := s_l_cell) q21 q22 q23
  have d0 := F0.binds (ps := ["_law_script", "_law_k"]) fun _ _ _ _ _ _ us hl => match us, hl with | [_, _], _ => rfl
  have F1 := fun_mk (st := s_l_draws) q25 q26 q27
  have d1 := F1.binds (ps := ["_law_cell_here", "_law_many"]) fun _ _ _ _ _ _ us hl => match us, hl with | [_, _], _ => rfl
  have F2 := fun_mk (st := s_l_pick) q29 q30 q31
  have d2 := F2.binds (ps := ["_law_draws_here", "_law_k", "_law_many"]) fun _ _ _ _ _ _ us hl => match us, hl with | [_, _, _], _ => rfl
  have F3 := fun_mk (st := s_l_web) q33 q34 q35
  have d3 := F3.binds (ps := ["_law_draws_here", "_law_most_places", "_law_most_ties"]) fun _ _ _ _ _ _ us hl => match us, hl with | [_, _, _], _ => rfl
  have F4 := fun_mk (st := s_p_check_end) q37 q38 q39
  have d4 := F4.binds (ps := ["sides", "place", "side"]) fun _ _ _ _ _ _ us hl => match us, hl with | [_, _, _], _ => rfl
  have F5 := fun_mk (st := s_m_WebX_initX) q42 q43 q44
  have d5 := F5.binds (ps := ["self", "sides", "ties"]) fun _ _ _ _ _ _ us hl => match us, hl with | [_, _, _], _ => rfl
  have F6 := fun_mk (st := s_l_counts) q48 q49 q50
  have d6 := F6.binds (ps := ["_law_sides", "_law_ties"]) fun _ _ _ _ _ _ us hl => match us, hl with | [_, _], _ => rfl
  have F7 := fun_mk (st := s_p_end_counts) q52 q53 q54
  have d7 := F7.binds (ps := ["web"]) fun _ _ _ _ _ _ us hl => match us, hl with | [_], _ => rfl
  have F8 := fun_mk (st := s_l_is_number) q56 q57 q58
  have d8 := F8.binds (ps := ["_law_told"]) fun _ _ _ _ _ _ us hl => match us, hl with | [_], _ => rfl
  have F9 := fun_mk (st := s_l_numbers) q60 q61 q62
  have d9 := F9.binds (ps := ["_law_told", "_law_due"]) fun _ _ _ _ _ _ us hl => match us, hl with | [_, _], _ => rfl
  have F10 := fun_mk (st := s_p_side_table) q64 q65 q66
  have d10 := F10.binds (ps := ["web"]) fun _ _ _ _ _ _ us hl => match us, hl with | [_], _ => rfl
  have F11 := fun_mk (st := s_l_row) q68 q69 q70
  have d11 := F11.binds (ps := ["_law_place", "_law_counts_here"]) fun _ _ _ _ _ _ us hl => match us, hl with | [_, _], _ => rfl
  have F12 := fun_mk (st := s_m_WebX_containsX) q73 q74 q75
  have d12 := F12.binds (ps := ["self", "place"]) fun _ _ _ _ _ _ us hl => match us, hl with | [_, _], _ => rfl
  have F13 := fun_mk (st := s_m_Web_steps_from) q78 q79 q80
  have d13 := F13.binds (ps := ["self", "place"]) fun _ _ _ _ _ _ us hl => match us, hl with | [_, _], _ => rfl
  have F14 := fun_mk (st := s_m_Web_tail) q83 q84 q85
  have d14 := F14.binds (ps := ["self", "step"]) fun _ _ _ _ _ _ us hl => match us, hl with | [_, _], _ => rfl
  have F15 := fun_mk (st := s_m_Web_used_sides) q88 q89 q90
  have d15 := F15.binds (ps := ["self", "place"]) fun _ _ _ _ _ _ us hl => match us, hl with | [_, _], _ => rfl
  have F16 := fun_mk (st := s_l_refused) q92 q93 q94
  have d16 := F16.binds (ps := ["_law_web_here", "_law_number"]) fun _ _ _ _ _ _ us hl => match us, hl with | [_, _], _ => rfl
  have F17 := fun_mk (st := s_m_Web_joints) q99 q100 q101
  have d17 := F17.binds (ps := ["self"]) fun _ _ _ _ _ _ us hl => match us, hl with | [_], _ => rfl
  have F18 := fun_mk (st := s_l_right_sides) q103 q104 q105
  have d18 := F18.binds (ps := ["_law_web_here", "_law_counts_here"]) fun _ _ _ _ _ _ us hl => match us, hl with | [_, _], _ => rfl
  have F19 := fun_mk (st := s_l_right) q107 q108 q109
  have d19 := F19.binds (ps := ["_law_web_here", "_law_sides", "_law_ties"]) fun _ _ _ _ _ _ us hl => match us, hl with | [_, _, _], _ => rfl
  have F20 := fun_mk (st := s_law) q111 q112 q113
  have d20 := F20.binds (ps := ["_law_script"]) fun _ _ _ _ _ _ us hl => match us, hl with | [_], _ => rfl
  let T : Txt K mg := {
    A := ⟨fun c => match c with | .BadSides => D_BadSides | .ComesapartError => D_ComesapartError | .TooLarge => D_TooLarge | .UnknownPlace => D_UnknownPlace | .UnknownSide => D_UnknownSide | .UnknownTie => D_UnknownTie | _ => 0, fun c => match c with | .Web => C_Web | _ => 0⟩
    g_Web := PySem.W.mg_of X G q0
    c_Web := ⟨q1, q2, q3, q4⟩
    digits := q5
    n_Web_sides := q6
    n_Web_ties := q7
    u_Web_MOST_PLACES := _
    k_Web_MOST_PLACES := ⟨q8, ⟨_, rfl⟩, q9, by decide +kernel⟩
    u_Web_MOST_SIDES := _
    k_Web_MOST_SIDES := ⟨q10, ⟨_, rfl⟩, q11, by decide +kernel⟩
    u_Web_MOST_TIES := _
    k_Web_MOST_TIES := ⟨q12, ⟨_, rfl⟩, q13, by decide +kernel⟩
    g_BadSides := PySem.W.mg_of X G q14
    g_ComesapartError := PySem.W.mg_of X G q15
    g_TooLarge := PySem.W.mg_of X G q16
    g_UnknownPlace := PySem.W.mg_of X G q17
    g_UnknownSide := PySem.W.mg_of X G q18
    g_UnknownTie := PySem.W.mg_of X G q19
    g_l_cell := PySem.W.mg_of X G q20
    a_l_cell := _
    f_l_cell := _
    F_l_cell := F0
    d_l_cell := d0
    g_l_draws := PySem.W.mg_of X G q24
    a_l_draws := _
    f_l_draws := _
    F_l_draws := F1
    d_l_draws := d1
    g_l_pick := PySem.W.mg_of X G q28
    a_l_pick := _
    f_l_pick := _
    F_l_pick := F2
    d_l_pick := d2
    g_l_web := PySem.W.mg_of X G q32
    a_l_web := _
    f_l_web := _
    F_l_web := F3
    d_l_web := d3
    g_p_check_end := PySem.W.mg_of X G q36
    a_p_check_end := _
    f_p_check_end := _
    F_p_check_end := F4
    d_p_check_end := d4
    a_m_WebX_initX := _
    f_m_WebX_initX := _
    F_m_WebX_initX := F5
    d_m_WebX_initX := d5
    mk_Web := ⟨q45, q40, q41, q46⟩
    g_l_counts := PySem.W.mg_of X G q47
    a_l_counts := _
    f_l_counts := _
    F_l_counts := F6
    d_l_counts := d6
    g_p_end_counts := PySem.W.mg_of X G q51
    a_p_end_counts := _
    f_p_end_counts := _
    F_p_end_counts := F7
    d_p_end_counts := d7
    g_l_is_number := PySem.W.mg_of X G q55
    a_l_is_number := _
    f_l_is_number := _
    F_l_is_number := F8
    d_l_is_number := d8
    g_l_numbers := PySem.W.mg_of X G q59
    a_l_numbers := _
    f_l_numbers := _
    F_l_numbers := F9
    d_l_numbers := d9
    g_p_side_table := PySem.W.mg_of X G q63
    a_p_side_table := _
    f_p_side_table := _
    F_p_side_table := F10
    d_p_side_table := d10
    g_l_row := PySem.W.mg_of X G q67
    a_l_row := _
    f_l_row := _
    F_l_row := F11
    d_l_row := d11
    a_m_WebX_containsX := _
    f_m_WebX_containsX := _
    F_m_WebX_containsX := F12
    d_m_WebX_containsX := d12
    me_m_WebX_containsX := ⟨q71, q72, q75⟩
    a_m_Web_steps_from := _
    f_m_Web_steps_from := _
    F_m_Web_steps_from := F13
    d_m_Web_steps_from := d13
    me_m_Web_steps_from := ⟨q76, q77, q80⟩
    a_m_Web_tail := _
    f_m_Web_tail := _
    F_m_Web_tail := F14
    d_m_Web_tail := d14
    me_m_Web_tail := ⟨q81, q82, q85⟩
    a_m_Web_used_sides := _
    f_m_Web_used_sides := _
    F_m_Web_used_sides := F15
    d_m_Web_used_sides := d15
    me_m_Web_used_sides := ⟨q86, q87, q90⟩
    g_l_refused := PySem.W.mg_of X G q91
    a_l_refused := _
    f_l_refused := _
    F_l_refused := F16
    d_l_refused := d16
    a_m_Web_joints := _
    f_m_Web_joints := _
    F_m_Web_joints := F17
    d_m_Web_joints := d17
    q_m_Web_joints := _
    p_m_Web_joints := ⟨q95, q96, q97, ⟨_, q98⟩⟩
    g_l_right_sides := PySem.W.mg_of X G q102
    a_l_right_sides := _
    f_l_right_sides := _
    F_l_right_sides := F18
    d_l_right_sides := d18
    g_l_right := PySem.W.mg_of X G q106
    a_l_right := _
    f_l_right := _
    F_l_right := F19
    d_l_right := d19
    g_law := PySem.W.mg_of X G q110
    a_law := _
    f_law := _
    F_law := F20
    d_law := d20
    i_BadSides := xf_BadSides
    fx_BadSides := (initNF "__init__" "BadSides.__init__" ((clsB (topS 8)).getD 0 (.Pass ⟨0, 0, 0, 0⟩)) cc_BadSides cda_BadSides).fd xdc_BadSides xpm_BadSides xct_BadSides
    x_BadSides := ⟨⟨⟨_, _, _, _, _, _, _, _, _, _, _, _, _, _, _, q116, q117⟩, q118, q119, q120, q121⟩, ⟨_, q122⟩, q123, q124, q125, q126, q127⟩
    dx_BadSides := fun s us _ hl => BindsTo.of_eq (match us, hl with | [_, _], _ => rfl)
    i_TooLarge := xf_TooLarge
    fx_TooLarge := (initNF "__init__" "TooLarge.__init__" ((clsB (topS 6)).getD 0 (.Pass ⟨0, 0, 0, 0⟩)) cc_TooLarge cda_TooLarge).fd xdc_TooLarge xpm_TooLarge xct_TooLarge
    x_TooLarge := ⟨⟨⟨_, _, _, _, _, _, _, _, _, _, _, _, _, _, _, q135, q136⟩, q137, q138, q139, q140⟩, ⟨_, q141⟩, q142, q143, q144, q145, q146⟩
    dx_TooLarge := fun s us _ hl => BindsTo.of_eq (match us, hl with | [_, _], _ => rfl)
    i_UnknownPlace := xf_UnknownPlace
    fx_UnknownPlace := (initNF "__init__" "UnknownPlace.__init__" ((clsB (topS 7)).getD 0 (.Pass ⟨0, 0, 0, 0⟩)) cc_UnknownPlace cda_UnknownPlace).fd xdc_UnknownPlace xpm_UnknownPlace xct_UnknownPlace
    x_UnknownPlace := ⟨⟨⟨_, _, _, _, _, _, _, _, _, _, _, _, _, _, _, q154, q155⟩, q156, q157, q158, q159⟩, ⟨_, q160⟩, q161, q162, q163, q164, q165⟩
    dx_UnknownPlace := fun s us _ hl => BindsTo.of_eq (match us, hl with | [_, _], _ => rfl)
    i_UnknownSide := xf_UnknownSide
    fx_UnknownSide := (initNF "__init__" "UnknownSide.__init__" ((clsB (topS 9)).getD 0 (.Pass ⟨0, 0, 0, 0⟩)) cc_UnknownSide cda_UnknownSide).fd xdc_UnknownSide xpm_UnknownSide xct_UnknownSide
    x_UnknownSide := ⟨⟨⟨_, _, _, _, _, _, _, _, _, _, _, _, _, _, _, q173, q174⟩, q175, q176, q177, q178⟩, ⟨_, q179⟩, q180, q181, q182, q183, q184⟩
    dx_UnknownSide := fun s us _ hl => BindsTo.of_eq (match us, hl with | [_, _, _], _ => rfl)
    i_UnknownTie := xf_UnknownTie
    fx_UnknownTie := (initNF "__init__" "UnknownTie.__init__" ((clsB (topS 10)).getD 0 (.Pass ⟨0, 0, 0, 0⟩)) cc_UnknownTie cda_UnknownTie).fd xdc_UnknownTie xpm_UnknownTie xct_UnknownTie
    x_UnknownTie := ⟨⟨⟨_, _, _, _, _, _, _, _, _, _, _, _, _, _, _, q193, q194⟩, q195, q196, q197, q198⟩, ⟨_, q199⟩, q200, q201, q202, q203, q204⟩
    dx_UnknownTie := fun s us _ hl => BindsTo.of_eq (match us, hl with | [_, _], _ => rfl)
    no_UnknownPlace_place := q212
    xf_UnknownPlace := ⟨q213, q214, q215, q216⟩
    exc := fun c hc => by
      revert hc
      cases c with
      | NotAPairing => exact fun h => absurd h (by decide)
      | NothingToUndo => exact fun h => absurd h (by decide)
      | NothingToRedo => exact fun h => absurd h (by decide)
      | BadLabel => exact fun h => absurd h (by decide)
      | NameTaken => exact fun h => absurd h (by decide)
      | NoSuchName => exact fun h => absurd h (by decide)
      | StillTied => exact fun h => absurd h (by decide)
      | ComesapartError => exact fun h => absurd h (by decide)
      | TooLarge => exact fun _ => ⟨q225, q226, q227, q228, q229, q217, q218, q230⟩
      | BadLine => exact fun h => absurd h (by decide)
      | UnknownPlace => exact fun _ => ⟨q231, q232, q233, q234, q235, q217, q218, q236⟩
      | BadSides => exact fun _ => ⟨q219, q220, q221, q222, q223, q217, q218, q224⟩
      | UnknownSide => exact fun _ => ⟨q237, q238, q239, q240, q241, q217, q218, q242⟩
      | UnknownTie => exact fun _ => ⟨q243, q244, q245, q246, q247, q217, q218, q248⟩
      | BadStep => exact fun h => absurd h (by decide)
      | Repeated => exact fun h => absurd h (by decide)
      | NotATurningCycle => exact fun h => absurd h (by decide)
      | UnknownPoint => exact fun h => absurd h (by decide)
      | UnknownPair => exact fun h => absurd h (by decide)
      | SamePoint => exact fun h => absurd h (by decide)
      | NoLinks => exact fun h => absurd h (by decide)
      | BadLink => exact fun h => absurd h (by decide)
      | BadNode => exact fun h => absurd h (by decide)
      | UnknownTerm => exact fun h => absurd h (by decide)
      | NotSameSteps => exact fun h => absurd h (by decide)
      | NoFacing => exact fun h => absurd h (by decide)
      | NotARing => exact fun h => absurd h (by decide)
      | NotAJoint => exact fun h => absurd h (by decide)
      | NotShut => exact fun h => absurd h (by decide)
      | BadCut => exact fun h => absurd h (by decide)
      | NoSuchCut => exact fun h => absurd h (by decide)
      | Locked => exact fun h => absurd h (by decide)
      | Nothing => exact fun h => absurd h (by decide)
      | BadName => exact fun h => absurd h (by decide)
      | BadSign => exact fun h => absurd h (by decide)
      | BadMove => exact fun h => absurd h (by decide)
      | NoTerm => exact fun h => absurd h (by decide)
      | NeverOpened => exact fun h => absurd h (by decide)
      | BoundTwice => exact fun h => absurd h (by decide)
      | UnknownName => exact fun h => absurd h (by decide)
      | UsedTwice => exact fun h => absurd h (by decide)
      | NotUsed => exact fun h => absurd h (by decide)
      | NotARedex => exact fun h => absurd h (by decide)
      | NotBalanced => exact fun h => absurd h (by decide)
      | NotAnArrow => exact fun h => absurd h (by decide)
      | NotAPermutation => exact fun h => absurd h (by decide)
      | BadSetting => exact fun h => absurd h (by decide)
      | BadSigns => exact fun h => absurd h (by decide)
      | BadChoice => exact fun h => absurd h (by decide)
      | NotOuter => exact fun h => absurd h (by decide)
    hx_ComesapartError := fun c hc => by
      revert hc
      cases c with
      | NotAPairing => exact fun h => absurd h (by decide)
      | NothingToUndo => exact fun h => absurd h (by decide)
      | NothingToRedo => exact fun h => absurd h (by decide)
      | BadLabel => exact fun h => absurd h (by decide)
      | NameTaken => exact fun h => absurd h (by decide)
      | NoSuchName => exact fun h => absurd h (by decide)
      | StillTied => exact fun h => absurd h (by decide)
      | ComesapartError => exact fun h => absurd h (by decide)
      | TooLarge => exact fun _ => exm_ref q263 q249 q250 q255
      | BadLine => exact fun h => absurd h (by decide)
      | UnknownPlace => exact fun _ => exm_ref q263 q249 q250 q257
      | BadSides => exact fun _ => exm_ref q263 q249 q250 q253
      | UnknownSide => exact fun _ => exm_ref q263 q249 q250 q259
      | UnknownTie => exact fun _ => exm_ref q263 q249 q250 q261
      | BadStep => exact fun h => absurd h (by decide)
      | Repeated => exact fun h => absurd h (by decide)
      | NotATurningCycle => exact fun h => absurd h (by decide)
      | UnknownPoint => exact fun h => absurd h (by decide)
      | UnknownPair => exact fun h => absurd h (by decide)
      | SamePoint => exact fun h => absurd h (by decide)
      | NoLinks => exact fun h => absurd h (by decide)
      | BadLink => exact fun h => absurd h (by decide)
      | BadNode => exact fun h => absurd h (by decide)
      | UnknownTerm => exact fun h => absurd h (by decide)
      | NotSameSteps => exact fun h => absurd h (by decide)
      | NoFacing => exact fun h => absurd h (by decide)
      | NotARing => exact fun h => absurd h (by decide)
      | NotAJoint => exact fun h => absurd h (by decide)
      | NotShut => exact fun h => absurd h (by decide)
      | BadCut => exact fun h => absurd h (by decide)
      | NoSuchCut => exact fun h => absurd h (by decide)
      | Locked => exact fun h => absurd h (by decide)
      | Nothing => exact fun h => absurd h (by decide)
      | BadName => exact fun h => absurd h (by decide)
      | BadSign => exact fun h => absurd h (by decide)
      | BadMove => exact fun h => absurd h (by decide)
      | NoTerm => exact fun h => absurd h (by decide)
      | NeverOpened => exact fun h => absurd h (by decide)
      | BoundTwice => exact fun h => absurd h (by decide)
      | UnknownName => exact fun h => absurd h (by decide)
      | UsedTwice => exact fun h => absurd h (by decide)
      | NotUsed => exact fun h => absurd h (by decide)
      | NotARedex => exact fun h => absurd h (by decide)
      | NotBalanced => exact fun h => absurd h (by decide)
      | NotAnArrow => exact fun h => absurd h (by decide)
      | NotAPermutation => exact fun h => absurd h (by decide)
      | BadSetting => exact fun h => absurd h (by decide)
      | BadSigns => exact fun h => absurd h (by decide)
      | BadChoice => exact fun h => absurd h (by decide)
      | NotOuter => exact fun h => absurd h (by decide)
    kx_UnknownPlace := fun c hc => by
      revert hc
      cases c with
      | NotAPairing => exact fun h => absurd h (by decide)
      | NothingToUndo => exact fun h => absurd h (by decide)
      | NothingToRedo => exact fun h => absurd h (by decide)
      | BadLabel => exact fun h => absurd h (by decide)
      | NameTaken => exact fun h => absurd h (by decide)
      | NoSuchName => exact fun h => absurd h (by decide)
      | StillTied => exact fun h => absurd h (by decide)
      | ComesapartError => exact fun h => absurd h (by decide)
      | TooLarge => exact fun _ => kit_refF q265 q251 q252 q256
      | BadLine => exact fun h => absurd h (by decide)
      | UnknownPlace => exact fun _ => kit_refT q251 q252 q258
      | BadSides => exact fun _ => kit_refF q264 q251 q252 q254
      | UnknownSide => exact fun _ => kit_refF q266 q251 q252 q260
      | UnknownTie => exact fun _ => kit_refF q267 q251 q252 q262
      | BadStep => exact fun h => absurd h (by decide)
      | Repeated => exact fun h => absurd h (by decide)
      | NotATurningCycle => exact fun h => absurd h (by decide)
      | UnknownPoint => exact fun h => absurd h (by decide)
      | UnknownPair => exact fun h => absurd h (by decide)
      | SamePoint => exact fun h => absurd h (by decide)
      | NoLinks => exact fun h => absurd h (by decide)
      | BadLink => exact fun h => absurd h (by decide)
      | BadNode => exact fun h => absurd h (by decide)
      | UnknownTerm => exact fun h => absurd h (by decide)
      | NotSameSteps => exact fun h => absurd h (by decide)
      | NoFacing => exact fun h => absurd h (by decide)
      | NotARing => exact fun h => absurd h (by decide)
      | NotAJoint => exact fun h => absurd h (by decide)
      | NotShut => exact fun h => absurd h (by decide)
      | BadCut => exact fun h => absurd h (by decide)
      | NoSuchCut => exact fun h => absurd h (by decide)
      | Locked => exact fun h => absurd h (by decide)
      | Nothing => exact fun h => absurd h (by decide)
      | BadName => exact fun h => absurd h (by decide)
      | BadSign => exact fun h => absurd h (by decide)
      | BadMove => exact fun h => absurd h (by decide)
      | NoTerm => exact fun h => absurd h (by decide)
      | NeverOpened => exact fun h => absurd h (by decide)
      | BoundTwice => exact fun h => absurd h (by decide)
      | UnknownName => exact fun h => absurd h (by decide)
      | UsedTwice => exact fun h => absurd h (by decide)
      | NotUsed => exact fun h => absurd h (by decide)
      | NotARedex => exact fun h => absurd h (by decide)
      | NotBalanced => exact fun h => absurd h (by decide)
      | NotAnArrow => exact fun h => absurd h (by decide)
      | NotAPermutation => exact fun h => absurd h (by decide)
      | BadSetting => exact fun h => absurd h (by decide)
      | BadSigns => exact fun h => absurd h (by decide)
      | BadChoice => exact fun h => absurd h (by decide)
      | NotOuter => exact fun h => absurd h (by decide)
    kx_ValueError := fun c hc => by
      revert hc
      cases c with
      | NotAPairing => exact fun h => absurd h (by decide)
      | NothingToUndo => exact fun h => absurd h (by decide)
      | NothingToRedo => exact fun h => absurd h (by decide)
      | BadLabel => exact fun h => absurd h (by decide)
      | NameTaken => exact fun h => absurd h (by decide)
      | NoSuchName => exact fun h => absurd h (by decide)
      | StillTied => exact fun h => absurd h (by decide)
      | ComesapartError => exact fun h => absurd h (by decide)
      | TooLarge => exact fun _ => kit_VE q269
      | BadLine => exact fun h => absurd h (by decide)
      | UnknownPlace => exact fun _ => kit_VE q270
      | BadSides => exact fun _ => kit_VE q268
      | UnknownSide => exact fun _ => kit_VE q271
      | UnknownTie => exact fun _ => kit_VE q272
      | BadStep => exact fun h => absurd h (by decide)
      | Repeated => exact fun h => absurd h (by decide)
      | NotATurningCycle => exact fun h => absurd h (by decide)
      | UnknownPoint => exact fun h => absurd h (by decide)
      | UnknownPair => exact fun h => absurd h (by decide)
      | SamePoint => exact fun h => absurd h (by decide)
      | NoLinks => exact fun h => absurd h (by decide)
      | BadLink => exact fun h => absurd h (by decide)
      | BadNode => exact fun h => absurd h (by decide)
      | UnknownTerm => exact fun h => absurd h (by decide)
      | NotSameSteps => exact fun h => absurd h (by decide)
      | NoFacing => exact fun h => absurd h (by decide)
      | NotARing => exact fun h => absurd h (by decide)
      | NotAJoint => exact fun h => absurd h (by decide)
      | NotShut => exact fun h => absurd h (by decide)
      | BadCut => exact fun h => absurd h (by decide)
      | NoSuchCut => exact fun h => absurd h (by decide)
      | Locked => exact fun h => absurd h (by decide)
      | Nothing => exact fun h => absurd h (by decide)
      | BadName => exact fun h => absurd h (by decide)
      | BadSign => exact fun h => absurd h (by decide)
      | BadMove => exact fun h => absurd h (by decide)
      | NoTerm => exact fun h => absurd h (by decide)
      | NeverOpened => exact fun h => absurd h (by decide)
      | BoundTwice => exact fun h => absurd h (by decide)
      | UnknownName => exact fun h => absurd h (by decide)
      | UsedTwice => exact fun h => absurd h (by decide)
      | NotUsed => exact fun h => absurd h (by decide)
      | NotARedex => exact fun h => absurd h (by decide)
      | NotBalanced => exact fun h => absurd h (by decide)
      | NotAnArrow => exact fun h => absurd h (by decide)
      | NotAPermutation => exact fun h => absurd h (by decide)
      | BadSetting => exact fun h => absurd h (by decide)
      | BadSigns => exact fun h => absurd h (by decide)
      | BadChoice => exact fun h => absurd h (by decide)
      | NotOuter => exact fun h => absurd h (by decide)
    b_ValueError := PySem.W.mg_none_of X G q273
    b_abs := PySem.W.mg_none_of X G q274
    b_bool := PySem.W.mg_none_of X G q275
    b_enumerate := PySem.W.mg_none_of X G q276
    b_int := PySem.W.mg_none_of X G q277
    b_isinstance := PySem.W.mg_none_of X G q278
    b_len := PySem.W.mg_none_of X G q279
    b_list := PySem.W.mg_none_of X G q280
    b_range := PySem.W.mg_none_of X G q281
    b_sorted := PySem.W.mg_none_of X G q282
    b_str := PySem.W.mg_none_of X G q283
    b_tuple := PySem.W.mg_none_of X G q284
  }
  have G_x_BadSides : ∀ base : Heap, FnOk PySem.Challenge.rw_comesapart_k00_ends_on_the_sides_of_plac.prog w K mg base (L2.CX PySem.Challenge.rw_comesapart_k00_ends_on_the_sides_of_plac.prog w) 1 T.i_BadSides T.fx_BadSides ["self", "place"] (spX1 (T.A.tx .BadSides) "place") := fun base => fok_exc1 (k := 0) (ar := ((defArgs ((clsB (topS 8)).getD 0 (.Pass ⟨0, 0, 0, 0⟩))).posonlyargs ++ (defArgs ((clsB (topS 8)).getD 0 (.Pass ⟨0, 0, 0, 0⟩))).args).headD ⟨"", none, ⟨0, 0, 0, 0⟩⟩) (F := initNF "__init__" "BadSides.__init__" ((clsB (topS 8)).getD 0 (.Pass ⟨0, 0, 0, 0⟩)) cc_BadSides cda_BadSides) (D := D_BadSides) (f := xf_BadSides) (show NdefX.NScope ["self", "place", "__class__"] ["self", "place"] ["__class__"] (defScope ((clsB (topS 8)).getD 0 (.Pass ⟨0, 0, 0, 0⟩))) from NdefX.nscope_by (by decide +kernel)) rfl rfl (by decide +kernel) (by decide +kernel) (by decide) (by decide) (show (defScope ((clsB (topS 8)).getD 0 (.Pass ⟨0, 0, 0, 0⟩))).names.lookup ("super" : PySem.Str) = some NameKind.globalImplicit from by decide +kernel) q128 rfl q129 q130 q132 q131 q133 T.x_BadSides q134 (PySem.W.mg_none_of X G q114) (by decide +kernel) q115 (by intro _; rfl)
  have G_x_TooLarge : ∀ base : Heap, FnOk PySem.Challenge.rw_comesapart_k00_ends_on_the_sides_of_plac.prog w K mg base (L2.CX PySem.Challenge.rw_comesapart_k00_ends_on_the_sides_of_plac.prog w) 1 T.i_TooLarge T.fx_TooLarge ["self", "limit"] (spX1 (T.A.tx .TooLarge) "limit") := fun base => fok_exc1 (k := 0) (ar := ((defArgs ((clsB (topS 6)).getD 0 (.Pass ⟨0, 0, 0, 0⟩))).posonlyargs ++ (defArgs ((clsB (topS 6)).getD 0 (.Pass ⟨0, 0, 0, 0⟩))).args).headD ⟨"", none, ⟨0, 0, 0, 0⟩⟩) (F := initNF "__init__" "TooLarge.__init__" ((clsB (topS 6)).getD 0 (.Pass ⟨0, 0, 0, 0⟩)) cc_TooLarge cda_TooLarge) (D := D_TooLarge) (f := xf_TooLarge) (show NdefX.NScope ["self", "limit", "__class__"] ["self", "limit"] ["__class__"] (defScope ((clsB (topS 6)).getD 0 (.Pass ⟨0, 0, 0, 0⟩))) from NdefX.nscope_by (by decide +kernel)) rfl rfl (by decide +kernel) (by decide +kernel) (by decide) (by decide) (show (defScope ((clsB (topS 6)).getD 0 (.Pass ⟨0, 0, 0, 0⟩))).names.lookup ("super" : PySem.Str) = some NameKind.globalImplicit from by decide +kernel) q147 rfl q148 q149 q151 q150 q152 T.x_TooLarge q153 (PySem.W.mg_none_of X G q114) (by decide +kernel) q115 (by intro _; rfl)
  have G_x_UnknownPlace : ∀ base : Heap, FnOk PySem.Challenge.rw_comesapart_k00_ends_on_the_sides_of_plac.prog w K mg base (L2.CX PySem.Challenge.rw_comesapart_k00_ends_on_the_sides_of_plac.prog w) 1 T.i_UnknownPlace T.fx_UnknownPlace ["self", "place"] (spX1 (T.A.tx .UnknownPlace) "place") := fun base => fok_exc1 (k := 0) (ar := ((defArgs ((clsB (topS 7)).getD 0 (.Pass ⟨0, 0, 0, 0⟩))).posonlyargs ++ (defArgs ((clsB (topS 7)).getD 0 (.Pass ⟨0, 0, 0, 0⟩))).args).headD ⟨"", none, ⟨0, 0, 0, 0⟩⟩) (F := initNF "__init__" "UnknownPlace.__init__" ((clsB (topS 7)).getD 0 (.Pass ⟨0, 0, 0, 0⟩)) cc_UnknownPlace cda_UnknownPlace) (D := D_UnknownPlace) (f := xf_UnknownPlace) (show NdefX.NScope ["self", "place", "__class__"] ["self", "place"] ["__class__"] (defScope ((clsB (topS 7)).getD 0 (.Pass ⟨0, 0, 0, 0⟩))) from NdefX.nscope_by (by decide +kernel)) rfl rfl (by decide +kernel) (by decide +kernel) (by decide) (by decide) (show (defScope ((clsB (topS 7)).getD 0 (.Pass ⟨0, 0, 0, 0⟩))).names.lookup ("super" : PySem.Str) = some NameKind.globalImplicit from by decide +kernel) q166 rfl q167 q168 q170 q169 q171 T.x_UnknownPlace q172 (PySem.W.mg_none_of X G q114) (by decide +kernel) q115 (by intro _; rfl)
  have G_x_UnknownSide : ∀ base : Heap, FnOk PySem.Challenge.rw_comesapart_k00_ends_on_the_sides_of_plac.prog w K mg base (L2.CX PySem.Challenge.rw_comesapart_k00_ends_on_the_sides_of_plac.prog w) 1 T.i_UnknownSide T.fx_UnknownSide ["self", "place", "side"] (spX2 (T.A.tx .UnknownSide) "place" "side") := fun base => fok_exc2 (k := 0) (ar := ((defArgs ((clsB (topS 9)).getD 0 (.Pass ⟨0, 0, 0, 0⟩))).posonlyargs ++ (defArgs ((clsB (topS 9)).getD 0 (.Pass ⟨0, 0, 0, 0⟩))).args).headD ⟨"", none, ⟨0, 0, 0, 0⟩⟩) (F := initNF "__init__" "UnknownSide.__init__" ((clsB (topS 9)).getD 0 (.Pass ⟨0, 0, 0, 0⟩)) cc_UnknownSide cda_UnknownSide) (D := D_UnknownSide) (f := xf_UnknownSide) (show NdefX.NScope ["self", "place", "side", "__class__"] ["self", "place", "side"] ["__class__"] (defScope ((clsB (topS 9)).getD 0 (.Pass ⟨0, 0, 0, 0⟩))) from NdefX.nscope_by (by decide +kernel)) rfl rfl (by decide +kernel) (by decide +kernel) (by decide) (by decide) (by decide) (by decide) (show (defScope ((clsB (topS 9)).getD 0 (.Pass ⟨0, 0, 0, 0⟩))).names.lookup ("super" : PySem.Str) = some NameKind.globalImplicit from by decide +kernel) q185 rfl q186 q187 q189 q188 q190 T.x_UnknownSide q191 q192 (PySem.W.mg_none_of X G q114) (by decide +kernel) q115 (by intro _; rfl)
  have G_x_UnknownTie : ∀ base : Heap, FnOk PySem.Challenge.rw_comesapart_k00_ends_on_the_sides_of_plac.prog w K mg base (L2.CX PySem.Challenge.rw_comesapart_k00_ends_on_the_sides_of_plac.prog w) 1 T.i_UnknownTie T.fx_UnknownTie ["self", "tie"] (spX1 (T.A.tx .UnknownTie) "tie") := fun base => fok_exc1 (k := 0) (ar := ((defArgs ((clsB (topS 10)).getD 0 (.Pass ⟨0, 0, 0, 0⟩))).posonlyargs ++ (defArgs ((clsB (topS 10)).getD 0 (.Pass ⟨0, 0, 0, 0⟩))).args).headD ⟨"", none, ⟨0, 0, 0, 0⟩⟩) (F := initNF "__init__" "UnknownTie.__init__" ((clsB (topS 10)).getD 0 (.Pass ⟨0, 0, 0, 0⟩)) cc_UnknownTie cda_UnknownTie) (D := D_UnknownTie) (f := xf_UnknownTie) (show NdefX.NScope ["self", "tie", "__class__"] ["self", "tie"] ["__class__"] (defScope ((clsB (topS 10)).getD 0 (.Pass ⟨0, 0, 0, 0⟩))) from NdefX.nscope_by (by decide +kernel)) rfl rfl (by decide +kernel) (by decide +kernel) (by decide) (by decide) (show (defScope ((clsB (topS 10)).getD 0 (.Pass ⟨0, 0, 0, 0⟩))).names.lookup ("super" : PySem.Str) = some NameKind.globalImplicit from by decide +kernel) q205 rfl q206 q207 q209 q208 q210 T.x_UnknownTie q211 (PySem.W.mg_none_of X G q114) (by decide +kernel) q115 (by intro _; rfl)
  refine ⟨PySem.W.fnOf "law" "law" (defArgs s_law) (defBody s_law) (defScope s_law) .none kV20 dc20 pm20 an20 cd20 ct20, fun s v => .of_eq rfl, fun base _ _ => ?_⟩
  have G_l_cell := ok_l_cell (P := PySem.Challenge.rw_comesapart_k00_ends_on_the_sides_of_plac.prog) (w := w) (base := base) T
  have G_l_draws := ok_l_draws (P := PySem.Challenge.rw_comesapart_k00_ends_on_the_sides_of_plac.prog) (w := w) (base := base) T
  have G_l_pick := ok_l_pick (P := PySem.Challenge.rw_comesapart_k00_ends_on_the_sides_of_plac.prog) (w := w) (base := base) T
  have G_l_web := ok_l_web (P := PySem.Challenge.rw_comesapart_k00_ends_on_the_sides_of_plac.prog) (w := w) (base := base) T G_l_pick
  have G_p_check_end := ok_p_check_end (P := PySem.Challenge.rw_comesapart_k00_ends_on_the_sides_of_plac.prog) (w := w) (base := base) T (G_x_UnknownPlace base) (G_x_UnknownSide base)
  have G_m_WebX_initX := ok_m_WebX_initX (P := PySem.Challenge.rw_comesapart_k00_ends_on_the_sides_of_plac.prog) (w := w) (base := base) T G_p_check_end (G_x_BadSides base) (G_x_TooLarge base)
  have G_l_counts := ok_l_counts (P := PySem.Challenge.rw_comesapart_k00_ends_on_the_sides_of_plac.prog) (w := w) (base := base) T
  have G_p_end_counts := ok_p_end_counts (P := PySem.Challenge.rw_comesapart_k00_ends_on_the_sides_of_plac.prog) (w := w) (base := base) T
  have G_l_is_number := ok_l_is_number (P := PySem.Challenge.rw_comesapart_k00_ends_on_the_sides_of_plac.prog) (w := w) (base := base) T
  have G_l_numbers := ok_l_numbers (P := PySem.Challenge.rw_comesapart_k00_ends_on_the_sides_of_plac.prog) (w := w) (base := base) T G_l_is_number
  have G_p_side_table := ok_p_side_table (P := PySem.Challenge.rw_comesapart_k00_ends_on_the_sides_of_plac.prog) (w := w) (base := base) T G_p_end_counts
  have G_l_row := ok_l_row (P := PySem.Challenge.rw_comesapart_k00_ends_on_the_sides_of_plac.prog) (w := w) (base := base) T
  have G_m_WebX_containsX := ok_m_WebX_containsX (P := PySem.Challenge.rw_comesapart_k00_ends_on_the_sides_of_plac.prog) (w := w) (base := base) T
  have G_m_Web_steps_from := ok_m_Web_steps_from (P := PySem.Challenge.rw_comesapart_k00_ends_on_the_sides_of_plac.prog) (w := w) (base := base) T G_m_WebX_containsX (G_x_UnknownPlace base)
  have G_m_Web_tail := ok_m_Web_tail (P := PySem.Challenge.rw_comesapart_k00_ends_on_the_sides_of_plac.prog) (w := w) (base := base) T (G_x_UnknownTie base)
  have G_m_Web_used_sides := ok_m_Web_used_sides (P := PySem.Challenge.rw_comesapart_k00_ends_on_the_sides_of_plac.prog) (w := w) (base := base) T G_m_Web_steps_from G_m_Web_tail
  have G_l_refused := ok_l_refused (P := PySem.Challenge.rw_comesapart_k00_ends_on_the_sides_of_plac.prog) (w := w) (base := base) T G_m_Web_used_sides
  have G_m_Web_joints := ok_m_Web_joints (P := PySem.Challenge.rw_comesapart_k00_ends_on_the_sides_of_plac.prog) (w := w) (base := base) T G_m_Web_used_sides
  have G_l_right_sides := ok_l_right_sides (P := PySem.Challenge.rw_comesapart_k00_ends_on_the_sides_of_plac.prog) (w := w) (base := base) T G_m_Web_used_sides G_l_numbers G_l_refused G_m_Web_joints
  have G_l_right := ok_l_right (P := PySem.Challenge.rw_comesapart_k00_ends_on_the_sides_of_plac.prog) (w := w) (base := base) T G_l_counts G_p_end_counts G_l_numbers G_p_side_table G_l_row G_l_right_sides
  have G_law := ok_law (P := PySem.Challenge.rw_comesapart_k00_ends_on_the_sides_of_plac.prog) (w := w) (base := base) T G_l_cell G_l_draws G_l_web G_l_pick G_m_WebX_initX G_l_right
  exact G_law
end K00

open PySem PySem.W PyProof.Rows
set_option maxRecDepth 100000 in
set_option maxHeartbeats 0 in
theorem PySem.Challenge.cw_comesapart_k00_ends_on_the_sides_of_plac_holds : PySem.Challenge.rw_comesapart_k00_ends_on_the_sides_of_plac.Holds := by
  w_on; o_law; k_head; (case hw => w_witness2)
  k_fill
  refine L2.walk_of (l := PySem.Challenge.rw_comesapart_k00_ends_on_the_sides_of_plac) (n := 63) (k := 9) (x := "_law_script") (CX := fun _ => L2.CX0) (sp := fun w => K00.sp_law ⟨PySem.Challenge.rw_comesapart_k00_ends_on_the_sides_of_plac.prog, w, _⟩) rfl (by decide) rfl ⟨rfl, by decide, by decide⟩ (fun w h Y => PySem.W.kIn_of Y) ?F (fun w _ a ns hl _ hS => ⟨⟨ns⟩, K00.law_plain ns hl, G.Fn.script hS⟩) (fun _ _ _ _ _ h => h)
  case F =>
    intro w mg fa h KX G hmg
    refine' K00.all_mk KX G hmg ?q0 ?q1 ?q2 ?q3 ?q4 ?q5 ?q6 ?q7 ?q8 ?q9 ?q10 ?q11 ?q12 ?q13 ?q14 ?q15 ?q16 ?q17 ?q18 ?q19 ?q20 ?q21 ?q22 ?q23 ?q24 ?q25 ?q26 ?q27 ?q28 ?q29 ?q30 ?q31 ?q32 ?q33 ?q34 ?q35 ?q36 ?q37 ?q38 ?q39 ?q40 ?q41 ?q42 ?q43 ?q44 ?q45 ?q46 ?q47 ?q48 ?q49 ?q50 ?q51 ?q52 ?q53 ?q54 ?q55 ?q56 ?q57 ?q58 ?q59 ?q60 ?q61 ?q62 ?q63 ?q64 ?q65 ?q66 ?q67 ?q68 ?q69 ?q70 ?q71 ?q72 ?q73 ?q74 ?q75 ?q76 ?q77 ?q78 ?q79 ?q80 ?q81 ?q82 ?q83 ?q84 ?q85 ?q86 ?q87 ?q88 ?q89 ?q90 ?q91 ?q92 ?q93 ?q94 ?q95 ?q96 ?q97 ?q98 ?q99 ?q100 ?q101 ?q102 ?q103 ?q104 ?q105 ?q106 ?q107 ?q108 ?q109 ?q110 ?q111 ?q112 ?q113 ?q114 ?q115 ?q116 ?q117 ?q118 ?q119 ?q120 ?q121 ?q122 ?q123 ?q124 ?q125 ?q126 ?q127 ?q128 ?q129 ?q130 ?q131 ?q132 ?q133 ?q134 ?q135 ?q136 ?q137 ?q138 ?q139 ?q140 ?q141 ?q142 ?q143 ?q144 ?q145 ?q146 ?q147 ?q148 ?q149 ?q150 ?q151 ?q152 ?q153 ?q154 ?q155 ?q156 ?q157 ?q158 ?q159 ?q160 ?q161 ?q162 ?q163 ?q164 ?q165 ?q166 ?q167 ?q168 ?q169 ?q170 ?q171 ?q172 ?q173 ?q174 ?q175 ?q176 ?q177 ?q178 ?q179 ?q180 ?q181 ?q182 ?q183 ?q184 ?q185 ?q186 ?q187 ?q188 ?q189 ?q190 ?q191 ?q192 ?q193 ?q194 ?q195 ?q196 ?q197 ?q198 ?q199 ?q200 ?q201 ?q202 ?q203 ?q204 ?q205 ?q206 ?q207 ?q208 ?q209 ?q210 ?q211 ?q212 ?q213 ?q214 ?q215 ?q216 ?q217 ?q218 ?q219 ?q220 ?q221 ?q222 ?q223 ?q224 ?q225 ?q226 ?q227 ?q228 ?q229 ?q230 ?q231 ?q232 ?q233 ?q234 ?q235 ?q236 ?q237 ?q238 ?q239 ?q240 ?q241 ?q242 ?q243 ?q244 ?q245 ?q246 ?q247 ?q248 ?q249 ?q250 ?q251 ?q252 ?q253 ?q254 ?q255 ?q256 ?q257 ?q258 ?q259 ?q260 ?q261 ?q262 ?q263 ?q264 ?q265 ?q266 ?q267 ?q268 ?q269 ?q270 ?q271 ?q272 ?q273 ?q274 ?q275 ?q276 ?q277 ?q278 ?q279 ?q280 ?q281 ?q282 ?q283 ?q284
    (case q0 => k_is)
    (case q1 => k_is)
    (case q2 => k_is)
    (case q3 => k_is)
    (case q4 => k_is)
    (case q5 => k_is)
    (case q6 => k_is)
    (case q7 => k_is)
    (case q8 => k_is)
    (case q9 => k_is)
    (case q10 => k_is)
    (case q11 => k_is)
    (case q12 => k_is)
    (case q13 => k_is)
    (case q14 => k_is)
    (case q15 => k_is)
    (case q16 => k_is)
    (case q17 => k_is)
    (case q18 => k_is)
    (case q19 => k_is)
    (case q20 => k_is)
    (case q21 => k_is)
    (case q22 => k_is)
    (case q23 => k_is)
    (case q24 => k_is)
    (case q25 => k_is)
    (case q26 => k_is)
    (case q27 => k_is)
    (case q28 => k_is)
    (case q29 => k_is)
    (case q30 => k_is)
    (case q31 => k_is)
    (case q32 => k_is)
    (case q33 => k_is)
    (case q34 => k_is)
    (case q35 => k_is)
    (case q36 => k_is)
    (case q37 => k_is)
    (case q38 => k_is)
    (case q39 => k_is)
    (case q40 => k_is)
    (case q41 => k_is)
    (case q42 => k_is)
    (case q43 => k_is)
    (case q44 => k_is)
    (case q45 => k_is)
    (case q46 => k_is)
    (case q47 => k_is)
    (case q48 => k_is)
    (case q49 => k_is)
    (case q50 => k_is)
    (case q51 => k_is)
    (case q52 => k_is)
    (case q53 => k_is)
    (case q54 => k_is)
    (case q55 => k_is)
    (case q56 => k_is)
    (case q57 => k_is)
    (case q58 => k_is)
    (case q59 => k_is)
    (case q60 => k_is)
    (case q61 => k_is)
    (case q62 => k_is)
    (case q63 => k_is)
    (case q64 => k_is)
    (case q65 => k_is)
    (case q66 => k_is)
    (case q67 => k_is)
    (case q68 => k_is)
    (case q69 => k_is)
    (case q70 => k_is)
    (case q71 => k_is)
    (case q72 => k_is)
    (case q73 => k_is)
    (case q74 => k_is)
    (case q75 => k_is)
    (case q76 => k_is)
    (case q77 => k_is)
    (case q78 => k_is)
    (case q79 => k_is)
    (case q80 => k_is)
    (case q81 => k_is)
    (case q82 => k_is)
    (case q83 => k_is)
    (case q84 => k_is)
    (case q85 => k_is)
    (case q86 => k_is)
    (case q87 => k_is)
    (case q88 => k_is)
    (case q89 => k_is)
    (case q90 => k_is)
    (case q91 => k_is)
    (case q92 => k_is)
    (case q93 => k_is)
    (case q94 => k_is)
    (case q95 => k_is)
    (case q96 => k_is)
    (case q97 => k_is)
    (case q98 => k_is)
    (case q99 => k_is)
    (case q100 => k_is)
    (case q101 => k_is)
    (case q102 => k_is)
    (case q103 => k_is)
    (case q104 => k_is)
    (case q105 => k_is)
    (case q106 => k_is)
    (case q107 => k_is)
    (case q108 => k_is)
    (case q109 => k_is)
    (case q110 => k_is)
    (case q111 => k_is)
    (case q112 => k_is)
    (case q113 => k_is)
    (case q114 => k_is)
    (case q115 => k_is)
    (case q116 => k_is)
    (case q117 => decide +kernel)
    (case q118 => k_is)
    (case q119 => k_is)
    (case q120 => k_is)
    (case q121 => k_is)
    (case q122 => k_is)
    (case q123 => k_is)
    (case q124 => ks_is)
    (case q125 => k_is)
    (case q126 => k_is)
    (case q127 => k_is)
    (case q128 => k_is)
    (case q129 => k_is)
    (case q130 => k_is)
    (case q131 => k_is)
    (case q132 => rfl)
    (case q133 => decide +kernel)
    (case q134 => k_is)
    (case q135 => k_is)
    (case q136 => decide +kernel)
    (case q137 => k_is)
    (case q138 => k_is)
    (case q139 => k_is)
    (case q140 => k_is)
    (case q141 => k_is)
    (case q142 => k_is)
    (case q143 => ks_is)
    (case q144 => k_is)
    (case q145 => k_is)
    (case q146 => k_is)
    (case q147 => k_is)
    (case q148 => k_is)
    (case q149 => k_is)
    (case q150 => k_is)
    (case q151 => rfl)
    (case q152 => decide +kernel)
    (case q153 => k_is)
    (case q154 => k_is)
    (case q155 => decide +kernel)
    (case q156 => k_is)
    (case q157 => k_is)
    (case q158 => k_is)
    (case q159 => k_is)
    (case q160 => k_is)
    (case q161 => k_is)
    (case q162 => ks_is)
    (case q163 => k_is)
    (case q164 => k_is)
    (case q165 => k_is)
    (case q166 => k_is)
    (case q167 => k_is)
    (case q168 => k_is)
    (case q169 => k_is)
    (case q170 => rfl)
    (case q171 => decide +kernel)
    (case q172 => k_is)
    (case q173 => k_is)
    (case q174 => decide +kernel)
    (case q175 => k_is)
    (case q176 => k_is)
    (case q177 => k_is)
    (case q178 => k_is)
    (case q179 => k_is)
    (case q180 => k_is)
    (case q181 => ks_is)
    (case q182 => k_is)
    (case q183 => k_is)
    (case q184 => k_is)
    (case q185 => k_is)
    (case q186 => k_is)
    (case q187 => k_is)
    (case q188 => k_is)
    (case q189 => rfl)
    (case q190 => decide +kernel)
    (case q191 => k_is)
    (case q192 => k_is)
    (case q193 => k_is)
    (case q194 => decide +kernel)
    (case q195 => k_is)
    (case q196 => k_is)
    (case q197 => k_is)
    (case q198 => k_is)
    (case q199 => k_is)
    (case q200 => k_is)
    (case q201 => ks_is)
    (case q202 => k_is)
    (case q203 => k_is)
    (case q204 => k_is)
    (case q205 => k_is)
    (case q206 => k_is)
    (case q207 => k_is)
    (case q208 => k_is)
    (case q209 => rfl)
    (case q210 => decide +kernel)
    (case q211 => k_is)
    (case q212 => k_is)
    (case q213 => k_is)
    (case q214 => k_is)
    (case q215 => k_is)
    (case q216 => k_is)
    (case q217 => k_is)
    (case q218 => k_is)
    (case q219 => k_is)
    (case q220 => k_is)
    (case q221 => k_is)
    (case q222 => k_is)
    (case q223 => k_is)
    (case q224 => k_is)
    (case q225 => k_is)
    (case q226 => k_is)
    (case q227 => k_is)
    (case q228 => k_is)
    (case q229 => k_is)
    (case q230 => k_is)
    (case q231 => k_is)
    (case q232 => k_is)
    (case q233 => k_is)
    (case q234 => k_is)
    (case q235 => k_is)
    (case q236 => k_is)
    (case q237 => k_is)
    (case q238 => k_is)
    (case q239 => k_is)
    (case q240 => k_is)
    (case q241 => k_is)
    (case q242 => k_is)
    (case q243 => k_is)
    (case q244 => k_is)
    (case q245 => k_is)
    (case q246 => k_is)
    (case q247 => k_is)
    (case q248 => k_is)
    (case q249 => k_is)
    (case q250 => k_is)
    (case q251 => k_is)
    (case q252 => k_is)
    (case q253 => k_is)
    (case q254 => k_is)
    (case q255 => k_is)
    (case q256 => k_is)
    (case q257 => k_is)
    (case q258 => k_is)
    (case q259 => k_is)
    (case q260 => k_is)
    (case q261 => k_is)
    (case q262 => k_is)
    (case q263 => k_is)
    (case q264 => decide)
    (case q265 => decide)
    (case q266 => decide)
    (case q267 => decide)
    (case q268 => k_is)
    (case q269 => k_is)
    (case q270 => k_is)
    (case q271 => k_is)
    (case q272 => k_is)
    (case q273 => k_is)
    (case q274 => k_is)
    (case q275 => k_is)
    (case q276 => k_is)
    (case q277 => k_is)
    (case q278 => k_is)
    (case q279 => k_is)
    (case q280 => k_is)
    (case q281 => k_is)
    (case q282 => k_is)
    (case q283 => k_is)
    (case q284 => k_is)

