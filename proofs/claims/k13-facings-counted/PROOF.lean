import PyProof.Rows.All
import Wide.All
import OpenK.AllK
import Wide.FinOn
import HandS.ForMost
import HandS.DictComp
import HandS.Strs
import HandS.IsInst
import HandS.SortInts
import KE.DataEq
import HandS.Wide
import HandS.Conv
import HandS.ExcOwn
import HandS.ExcInit
import HandS.ExcField
import HandS.ExcIs
import HandS.ExcSuper
import HandS.TryOnly
import HandS.TryMany
import HandS.Property
import HandS.ClsMeth
import HandS.OwnEq
import KE.KExcSuper
import HandS.Nested
import HandS.WordsExc
import KE.KExcIs
import KE.GoesMore
import HandS.TupAny
import HandS.Deep
import HandS.More
import HandS.SetKeys
import HandS.Star
import HandS.SetBool
import HandS.Flow
import HandS.SetFor
import HandS.Style
import HandS.Walk
import PyProof.InstEq
import KE.KOwnIter
import HandS.IterVal
import HandS.HotCalls
import HandS.TupSets
import KE.KTryMore
import HandS.OwnIter
import KE.SortCalls
import KE.SortData
import KE.DataCmp
import KE.RegKSuper
import PySem.Challenge.RW_comesapart_k13_facings_counted
set_option Elab.async false
set_option linter.all false
set_option maxRecDepth 100000
section
set_option maxHeartbeats 4000000
/-! G0: rules that the layer lacks: a name takes a dict comprehension. -/
namespace L2
open PySem PySem.Spec PyProof.Rows
section
variable {X : Cx}
/-- name = {k: v for ..} on one line, the name a local -/
theorem ps_setDc {i : Nat} {y : Str} {py : Pos} {kx vx tg iter : Expr} {ifs : List Expr} {scope : Scope} {own : List (Str × Nat)} {pos spos : Pos} {wi : TI} {g : TG} {tt : TT} {tk tv : TE} (hc : X.calm = true) (hN : X.N.Nodup) (hy : X.N[i]? = some y) (hyl : X.env.scope.names.lookup y = some .local)
    (hsw : swapsWith (.DictComp kx vx [⟨tg, iter, ifs, 0⟩] scope pos) (some (.Name y py)) spos.line X.env = pure true) (hi : PI X tg iter wi) (ok : BlkOk X.N X.env.scope scope own)
    (hg : ∀ (s : Shared) (H : Hp) (C : Addr) (cl : List (Str × Addr)) (fp : List Addr), PG (X.blk s H scope (compEnvC scope cl C X.env) fp) tg g)
    (ht : ∀ (s : Shared) (H : Hp) (C : Addr) (cl : List (Str × Addr)) (fp : List Addr), PTs (X.blk s H scope (compEnvC scope cl C X.env) fp) ifs tt)
    (hk : ∀ (s : Shared) (H : Hp) (C : Addr) (cl : List (Str × Addr)) (fp : List Addr), PE (X.blk s H scope (compEnvC scope cl C X.env) fp) kx tk)
    (he : ∀ (s : Shared) (H : Hp) (C : Addr) (cl : List (Str × Addr)) (fp : List Addr), PE (X.blk s H scope (compEnvC scope cl C X.env) fp) vx tv) (hs : ∀ x, foldedSetIterable iter X.env x = pure x := by intro _; rfl) :
    PS X (.Assign [.Name y py] (.DictComp kx vx [⟨tg, iter, ifs, 0⟩] scope pos) spos) (tAsg (tDc wi g tt tk tv (own.map (·.2))) (gName i)) := by
  refine ⟨fun pins s σ H D I h => ?_⟩
  rw [exec_Assign_Name_used _ _ _ _ hsw]
  refine wpAny_bind (wpAny_standAt (wpAny_bind ?_))
  show wpAny _ X.A (do let _ ← comprehension (.DictComp kx vx [⟨tg, iter, ifs, 0⟩] scope pos) scope X.env (firstIterPos [⟨tg, iter, ifs, 0⟩] pos) newDict false (eval iter X.env) (some (assign (.Name y py) X.env))) _ _ s
  have h1 : tDc wi g tt tk tv (own.map (·.2)) σ H (fun x H1 => gName i x σ H1 D.nx) := h
  refine wpAny_bind (thn (dc_core (Qf := fun _ s' => SP X pins D .next s') hc hN I hi ok hg ht hk he hs h1 fun L C s' m H' I' q hn f => ?_) fun _ s' hq => wpAny_pure (wpAny_pure hq))
  show wpAny _ _ (assign (.Name y py) X.env (.ref L)) _ _ _
  refine wpAny_assign_Name (store_ok2 (v := V.ref L) I' hN hy (.inl hyl) rfl (fun s2 I2 ⟨a, sb, ha⟩ => ?_) (.inr hyl))
  have haC : C ≠ a := ha.elim (fun z => by rw [z]; exact f.2.1) fun z e => f.2.2.2.2.1 y a z e.symm
  exact ⟨m, hn.sameBut sb haC, fun h3 sb3 => ⟨_, H', I2.turned (t' := s2.toks) (fun b o hb e => (sb3.2 b hb).trans e) f.1 f.2.1 f.2.2.2.1 f.2.2.2.2.1 f.2.2.2.2.2, q⟩⟩
theorem sw_trueD {kx vx : Expr} {gs : List Comprehension} {scope : Scope} {pos py : Pos} {y : Str} {l : Nat} {env : Env} (hk : env.scope.kind = .function) (hy : env.scope.names.lookup y = some .local) (hl : (py.line == pos.line) = true)
    (ha : (scope.names.any fun (n, k) => n == y && (k == .local || k == .cell)) = false) : swapsWith (.DictComp kx vx gs scope pos) (some (.Name y py)) l env = pure true := by
  have hb : env.blockKind = .function := by unfold Env.blockKind; rw [hk]; rfl
  have ky : env.kindOf y = some .local := hy
  unfold swapsWith
  simp only [hb, ky, ha, Expr.pos, hl]
  rfl

/-! the same rules over a written part that bears a name (K, w): within a comprehension's block the context is another, K and w are not -/
section
variable (K : PySem.W.Frag) (w : World)
theorem op_inK (h : X.K = K := by rfl) : OpR X (compareOp .In) (rIn K false) := h ▸ op_in_seq
theorem ix_lK (h : X.K = K := by rfl) : IxR X (rIxL K) := h ▸ ix_list
theorem ix_tK (h : X.K = K := by rfl) : IxR X (rIxT K) := h ▸ ix_tup
theorem ix_qK (h : X.K = K := by rfl) : IxR X (rIx K) := h ▸ ix_seq
theorem sl_lK (h : X.K = K := by rfl) : SlR X (rSlL K) := h ▸ sl_list
theorem len_K (h : X.K = K := by rfl) : CallR X (.builtin "len") (fun xs H Q => ∃ p ys, xs = [.ref p] ∧ (SqL K H p ys ∨ SqT K H p ys) ∧ Q (.int ys.length) H) := h ▸ call_len_seq
theorem list_K (h : X.K = K := by rfl) : CallR X (.type "list") (fun xs H Q => ∃ p ys, xs = [.ref p] ∧ (SqL K H p ys ∨ SqT K H p ys) ∧ ∀ l, H l = none → Q (.ref l) (upd H l (.lst ys))) := h ▸ call_list_of
theorem tuple_K (h : X.K = K := by rfl) : CallR X (.type "tuple") (fun xs H Q => ∃ p ys, xs = [.ref p] ∧ ((SqL K H p ys ∧ ∀ l, H l = none → Q (.ref l) (upd H l (.tup ys))) ∨ (SqT K H p ys ∧ Q (.ref p) H))) := h ▸ call_tuple_of
theorem sortedI_K (h : X.K = K := by rfl) : CallR X (.builtin "sorted") (rSortedI K) := h ▸ cr_sortedI
theorem all_K (hc : X.calm = true) (h : X.K = K := by rfl) : CallR X (.builtin "all") (rAll K) := h ▸ cr_all hc
/-- data without dicts, not too deep -/
def shP (d : PyData) : Bool := d.plain && decide (d.depth ≤ 64)
def rEqP (K : PySem.W.Frag) : R2 := fun x y H Q => ∃ d e, Dp K H x d ∧ Dp K H y e ∧ shP d = true ∧ shP e = true ∧ Q (.bl (PyData.eqv d e)) H
def rNeP (K : PySem.W.Frag) : R2 := fun x y H Q => ∃ d e, Dp K H x d ∧ Dp K H y e ∧ shP d = true ∧ shP e = true ∧ Q (.bl (!PyData.eqv d e)) H
theorem op_eqDK (hu : X.A.units + 64 < cLine) (h : X.K = K := by rfl) : OpR X (compareOp .Eq) (rEqP K) := by
  subst h
  intro pins s σ H x y v u Q I rx ry ⟨d, e, hd, he, sd, se, q⟩
  obtain ⟨as, r1⟩ := Dp.reads I d x v hd rx
  obtain ⟨bs, r2⟩ := Dp.reads I e y u he ry
  simp only [shP, Bool.and_eq_true, decide_eq_true_eq] at sd se
  exact SeqAt.eq_plain r1 r2 sd.1 se.1 (by omega) ⟨.bl _, H, I, rfl, q⟩
theorem op_neDK (hu : X.A.units + 64 < cLine) (h : X.K = K := by rfl) : OpR X (compareOp .NotEq) (rNeP K) := by
  subst h
  intro pins s σ H x y v u Q I rx ry ⟨d, e, hd, he, sd, se, q⟩
  obtain ⟨as, r1⟩ := Dp.reads I d x v hd rx
  obtain ⟨bs, r2⟩ := Dp.reads I e y u he ry
  simp only [shP, Bool.and_eq_true, decide_eq_true_eq] at sd se
  exact SeqAt.ne_plain r1 r2 sd.1 se.1 (by omega) ⟨.bl _, H, I, rfl, q⟩
theorem isi_K (h : X.K = K := by rfl) : CallR X (.builtin "isinstance") (rIsi K) := h ▸ call_isi
theorem snotin_w (h : X.w = w := by rfl) : OpR X (compareOp .NotIn) (rSNotIn w) := h ▸ or_snotin
theorem set0_w (h : X.w = w := by rfl) : CallR X (.type "set") (rSet0 w) := h ▸ cr_set0
theorem pi_lK {tg l : Expr} {tl : TE} (hl : PE X l tl) (h : X.K = K := by rfl) : PI X tg l (iList K tl) := h ▸ pi_list hl
theorem pi_tK {tg l : Expr} {tl : TE} (hl : PE X l tl) (h : X.K = K := by rfl) : PI X tg l (iTup K tl) := h ▸ pi_tup hl
theorem truth_K {a : Expr} {ta : TE} (ha : PE X a ta) (he : ∀ whole, isTrue a X.env whole = (do let v ← whole; standAt a.pos; holding [v] (truthy v))) (h : X.K = K := by rfl) :
    PT X a (fun σ H Q => ta σ H fun x H' => ∃ k, TruV K x H' k ∧ Q k H') := h ▸ pt_truth ha he
theorem bm0_K {o : Expr} {to : TE} {name : Str} {apos cpos : Pos} {T id : String} {r : V → List V → Hp → VK → Prop} (pa : PlainAttrs T) (slot : Slot T name id) (hty : typeOf (.builtin id) = pure (.type "method_descriptor")) (hm : MtR X id r) (ho : PE X o to)
    (hbase : attributeBase o name X.env (eval o X.env) = eval o X.env := by rfl) (hline : (apos.endLine == cpos.line) = true := by rfl) (h : X.K = K := by rfl) : PE X (.Call (.Attribute o name apos) [] [] cpos) (tBM0 K T r to) := h ▸ pe_bm0 pa slot hty hm ho hbase hline
theorem bm_K {o e : Expr} {es : List Expr} {to : TE} {t : TA} {name : Str} {apos cpos : Pos} {T id : String} {r : V → List V → Hp → VK → Prop} (pa : PlainAttrs T) (slot : Slot T name id) (hty : typeOf (.builtin id) = pure (.type "method_descriptor")) (hm : MtR X id r) (ho : PE X o to) (ha : PA X (e :: es) t)
    (hbase : attributeBase o name X.env (eval o X.env) = eval o X.env := by rfl)
    (hfew : ((backTo cpos (starEach (e :: es) X.env)).all (fun x => !x.1) && (backToKw cpos (keywordEach [] X.env)).all (fun x => x.1.isSome)
      && decide ((e :: es).length + ([] : List Keyword).length + (if ([] : List Keyword).isEmpty then 0 else 1) < 30)) = true := by rfl)
    (hline : (apos.endLine == cpos.line) = true := by rfl) (hs : starEach (e :: es) X.env = (false, eval e X.env) :: starEach es X.env := by rfl) (hplain : (backTo cpos (starEach es X.env)).any (·.1) = false := by rfl) (h : X.K = K := by rfl) :
    PE X (.Call (.Attribute o name apos) (e :: es) [] cpos) (tBM K T r to t) := h ▸ pe_bm pa slot hty hm ho ha hbase hfew hline hs hplain
theorem sadd_w {o e : Expr} {es : List Expr} {to : TE} {t : TA} {apos cpos : Pos} (ho : PE X o to) (ha : PA X (e :: es) t)
    (hbase : attributeBase o "add" X.env (eval o X.env) = eval o X.env := by rfl)
    (hfew : ((backTo cpos (starEach (e :: es) X.env)).all (fun x => !x.1) && (backToKw cpos (keywordEach [] X.env)).all (fun x => x.1.isSome)
      && decide ((e :: es).length + ([] : List Keyword).length + (if ([] : List Keyword).isEmpty then 0 else 1) < 30)) = true := by rfl)
    (hline : (apos.endLine == cpos.line) = true := by rfl) (hs : starEach (e :: es) X.env = (false, eval e X.env) :: starEach es X.env := by rfl) (hplain : (backTo cpos (starEach es X.env)).any (·.1) = false := by rfl) (h : X.w = w := by rfl) :
    PE X (.Call (.Attribute o "add" apos) (e :: es) [] cpos) (tSAdd w to t) := h ▸ pe_sadd ho ha hbase hfew hline hs hplain
end
end
end L2
end

/-! G1: value environments over the hand layer. F: the frozen view of the heap (read only from now on), L: what is owned (may still be written). -/
namespace G
open PySem L2

structure GCtx where
  P : Program
  w : World
  K : PySem.W.Frag

abbrev LO := List (Addr × HO)

structure En where
  F0 : Hp
  H0 : Hp
  M : List Addr

structure Wk (e : En) (F : Hp) (L : LO) (H : Hp) : Prop where
  ff : Same e.F0 F
  hh : ∀ a o, a ∉ e.M → e.H0 a = some o → H a = some o
  th : ∀ a, e.H0 a ≠ none → H a ≠ none
  fh : Same F H
  nw : ∀ a, e.H0 a ≠ none → e.F0 a = none → F a = none
  tp : ∀ a xs, H a = some (.tup xs) → F a = some (.tup xs)
  ow : ∀ p ∈ L, F p.1 = none ∧ H p.1 = some p.2 ∧ (e.H0 p.1 = none ∨ p.1 ∈ e.M)
  nd : (L.map Prod.fst).Nodup

/-- the heap has grown, nothing that stood has changed -/
abbrev Gr (F H F' H' : Hp) : Prop := Wk ⟨F, H, []⟩ F' [] H'

theorem ne_some {α : Type} {x : Option α} {y : α} (h : x = some y) : x ≠ none := fun z => by rw [z] at h; cases h

theorem Wk.base {e : En} {F : Hp} {L : LO} {H : Hp} (k : Wk e F L H) : Gr F H F H :=
  ⟨Same.refl _, fun _ _ _ h => h, fun _ h => h, k.fh, fun _ _ h => h, k.tp, fun _ h => (nomatch h), List.nodup_nil⟩

theorem Wk.trans {e : En} {F F' : Hp} {L L' : LO} {H H' : Hp} (a : Wk e F L H) (b : Wk ⟨F, H, []⟩ F' L' H') : Wk e F' (L' ++ L) H' where
  ff := a.ff.trans b.ff
  hh := fun x o hx h => b.hh x o (fun z => nomatch z) (a.hh x o hx h)
  th := fun x h => b.th x (a.th x h)
  fh := b.fh
  nw := fun x h h' => b.nw x (a.th x h) (a.nw x h h')
  tp := b.tp
  ow := fun p hp => by
    rcases List.mem_append.mp hp with hp | hp
    · obtain ⟨h1, h2, h3⟩ := b.ow p hp
      refine ⟨h1, h2, .inl ?_⟩
      rcases h3 with h3 | h3
      · cases q : e.H0 p.1 with
        | none => rfl
        | some o => exact absurd h3 (a.th p.1 (ne_some q))
      · exact nomatch h3
    · obtain ⟨h1, h2, h3⟩ := a.ow p hp
      exact ⟨b.nw p.1 (ne_some h2) h1, b.hh p.1 p.2 (fun z => nomatch z) h2, h3⟩
  nd := by
    rw [List.map_append]
    refine List.nodup_append.mpr ⟨b.nd, a.nd, fun x hx y hy z => ?_⟩
    obtain ⟨p, hp, rfl⟩ := List.mem_map.mp hx
    obtain ⟨q, hq, rfl⟩ := List.mem_map.mp hy
    obtain ⟨_, _, h3⟩ := b.ow p hp
    obtain ⟨_, h2, _⟩ := a.ow q hq
    rcases h3 with h3 | h3
    · have h4 : H q.1 = none := (show p.1 = q.1 from z) ▸ (show H p.1 = none from h3)
      rw [h2] at h4
      cases h4
    · exact nomatch h3

theorem Wk.trans0 {e : En} {F F' : Hp} {L : LO} {H H' : Hp} (a : Wk e F L H) (b : Gr F H F' H') : Wk e F' L H' := a.trans b

/-- a part of what is owned may be forgotten; the order is nothing -/
theorem Wk.sub {e : En} {F : Hp} {L L' : LO} {H : Hp} (a : Wk e F L H) (hs : ∀ p ∈ L', p ∈ L) (hn : (L'.map Prod.fst).Nodup) : Wk e F L' H :=
  ⟨a.ff, a.hh, a.th, a.fh, a.nw, a.tp, fun p hp => a.ow p (hs p hp), hn⟩

theorem nodup_part {L1 Li L2 : LO} (h : ((L1 ++ Li ++ L2).map Prod.fst).Nodup) : ((L1 ++ L2).map Prod.fst).Nodup := by
  simp only [List.map_append] at h ⊢
  have h1 := List.nodup_append.mp h
  have h2 := List.nodup_append.mp h1.1
  exact List.nodup_append.mpr ⟨h2.1, h1.2.1, fun x hx y hy => h1.2.2 x (List.mem_append_left _ hx) y hy⟩
theorem Wk.drop {e : En} {F : Hp} {L1 Li L2 : LO} {H : Hp} (a : Wk e F (L1 ++ Li ++ L2) H) : Wk e F (L1 ++ L2) H :=
  a.sub (fun p hp => by
    rcases List.mem_append.mp hp with h | h
    · exact List.mem_append_left _ (List.mem_append_left _ h)
    · exact List.mem_append_right _ h) (nodup_part a.nd)
theorem nodup_mid {L1 Li L2 : LO} (h : ((L1 ++ Li ++ L2).map Prod.fst).Nodup) : ((Li ++ (L1 ++ L2)).map Prod.fst).Nodup := by
  simp only [List.map_append] at h ⊢
  refine (List.Perm.nodup_iff ?_).mp h
  rw [← List.append_assoc]
  exact List.Perm.append_right _ List.perm_append_comm
theorem nodup_back {L1 Li L2 : LO} (h : ((Li ++ (L1 ++ L2)).map Prod.fst).Nodup) : ((L1 ++ Li ++ L2).map Prod.fst).Nodup := by
  simp only [List.map_append] at h ⊢
  refine (List.Perm.nodup_iff ?_).mp h
  rw [← List.append_assoc]
  exact List.Perm.append_right _ List.perm_append_comm
theorem Wk.front {e : En} {F : Hp} {L1 Li L2 : LO} {H : Hp} (a : Wk e F (L1 ++ Li ++ L2) H) : Wk e F (Li ++ (L1 ++ L2)) H :=
  a.sub (fun p hp => by simp only [List.mem_append] at hp ⊢; rcases hp with h | h | h <;> simp [h]) (nodup_mid a.nd)
theorem Wk.back {e : En} {F : Hp} {L1 Li L2 : LO} {H : Hp} (a : Wk e F (Li ++ (L1 ++ L2)) H) : Wk e F (L1 ++ Li ++ L2) H :=
  a.sub (fun p hp => by simp only [List.mem_append] at hp ⊢; rcases hp with (h | h) | h <;> simp [h]) (nodup_back a.nd)

/-- a new object, owned -/
theorem Wk.own {e : En} {F : Hp} {L : LO} {H : Hp} {p : Addr} {o : HO} (a : Wk e F L H) (hp : H p = none) (ht : ∀ xs, o ≠ .tup xs) : Wk e F ((p, o) :: L) (upd H p o) where
  ff := a.ff
  hh := fun x u hx h => by rw [upd_ne (ne_of_none (a.hh x u hx h) hp)]; exact a.hh x u hx h
  th := fun x h => by
    by_cases hx : x = p
    · subst hx; rw [upd_same]; exact fun z => nomatch z
    · rw [upd_ne hx]; exact a.th x h
  fh := fun x u h => by rw [upd_ne (ne_of_none (a.fh x u h) hp)]; exact a.fh x u h
  nw := a.nw
  tp := fun x xs h => by
    by_cases hx : x = p
    · subst hx; rw [upd_same] at h; exact absurd (Option.some.inj h) (ht xs)
    · rw [upd_ne hx] at h; exact a.tp x xs h
  ow := fun q hq => by
    rcases List.mem_cons.mp hq with rfl | hq
    · refine ⟨Same.free a.fh hp, upd_same, .inl ?_⟩
      cases z : e.H0 p with
      | none => rfl
      | some u => exact absurd hp (a.th p (ne_some z))
    · obtain ⟨h1, h2, h3⟩ := a.ow q hq
      exact ⟨h1, by rw [upd_ne (ne_of_none h2 hp)]; exact h2, h3⟩
  nd := by
    refine List.nodup_cons.mpr ⟨fun z => ?_, a.nd⟩
    obtain ⟨q, hq, e1⟩ := List.mem_map.mp z
    obtain ⟨_, h2, _⟩ := a.ow q hq
    rw [show q.1 = p from e1, hp] at h2
    cases h2

/-- what is owned is frozen -/
theorem Wk.freeze1 {e : En} {F : Hp} {L : LO} {H : Hp} {p : Addr} {o : HO} (a : Wk e F ((p, o) :: L) H) (hm : p ∉ e.M) : Wk e (upd F p o) L H where
  ff := fun x u h => by
    have h1 := (a.ow (p, o) List.mem_cons_self).1
    rw [upd_ne (ne_of_none (a.ff x u h) h1)]
    exact a.ff x u h
  hh := a.hh
  th := a.th
  fh := fun x u h => by
    by_cases hx : x = p
    · subst hx; rw [upd_same] at h; cases h
      exact (a.ow (x, o) List.mem_cons_self).2.1
    · rw [upd_ne hx] at h; exact a.fh x u h
  nw := fun x h h' => by
    have hx : x ≠ p := fun z => by
      subst z
      rcases (a.ow (x, o) List.mem_cons_self).2.2 with z | z
      · exact h z
      · exact hm z
    rw [upd_ne hx]; exact a.nw x h h'
  tp := fun x xs h => by
    by_cases hx : x = p
    · subst hx
      have h2 := (a.ow (x, o) List.mem_cons_self).2.1
      rw [upd_same, ← h2, h]
    · rw [upd_ne hx]; exact a.tp x xs h
  ow := fun q hq => by
    obtain ⟨h1, h2, h3⟩ := a.ow q (List.mem_cons_of_mem _ hq)
    have hx : q.1 ≠ p := fun z => (List.nodup_cons.mp a.nd).1 (List.mem_map.mpr ⟨q, hq, z⟩)
    exact ⟨by rw [upd_ne hx]; exact h1, h2, h3⟩
  nd := (List.nodup_cons.mp a.nd).2
/-- the owned L joins F -/
def plus (F : Hp) : LO → Hp
  | [] => F
  | p :: L => plus (upd F p.1 p.2) L
theorem Wk.freeze : ∀ {Li L : LO} {e : En} {F : Hp} {H : Hp}, Wk e F (Li ++ L) H → (∀ p ∈ Li, p.1 ∉ e.M) → Wk e (plus F Li) L H
  | [], _, _, _, _, a, _ => a
  | p :: Li, L, e, F, H, a, hm => Wk.freeze (Li := Li) (Wk.freeze1 (p := p.1) (o := p.2) a (hm p List.mem_cons_self)) fun q hq => hm q (List.mem_cons_of_mem _ hq)
theorem same_plus : ∀ {Li : LO} {F : Hp}, (∀ p ∈ Li, F p.1 = none) → (Li.map Prod.fst).Nodup → Same F (plus F Li)
  | [], F, _, _ => Same.refl F
  | p :: Li, F, h, hn => by
    have h1 : Same F (upd F p.1 p.2) := fun x u e => by rw [upd_ne (ne_of_none e (h p List.mem_cons_self))]; exact e
    refine h1.trans (same_plus (fun q hq => ?_) (List.nodup_cons.mp hn).2)
    have hx : q.1 ≠ p.1 := fun z => (List.nodup_cons.mp hn).1 (List.mem_map.mpr ⟨q, hq, z⟩)
    rw [upd_ne hx]
    exact h q (List.mem_cons_of_mem _ hq)
theorem plus_get : ∀ {Li : LO} {F : Hp}, (∀ p ∈ Li, F p.1 = none) → (Li.map Prod.fst).Nodup → ∀ p ∈ Li, plus F Li p.1 = some p.2
  | [], _, _, _, _, hq => nomatch hq
  | p :: Li, F, h, hn, q, hq => by
    have hb : ∀ r ∈ Li, upd F p.1 p.2 r.1 = none := fun r hr => by
      have hx : r.1 ≠ p.1 := fun z => (List.nodup_cons.mp hn).1 (List.mem_map.mpr ⟨r, hr, z⟩)
      rw [upd_ne hx]
      exact h r (List.mem_cons_of_mem _ hr)
    rcases List.mem_cons.mp hq with rfl | hq
    · exact same_plus hb (List.nodup_cons.mp hn).2 q.1 q.2 upd_same
    · exact plus_get (Li := Li) hb (List.nodup_cons.mp hn).2 q hq

/-- a new object, frozen at once -/
theorem Wk.lay {e : En} {F : Hp} {L : LO} {H : Hp} {p : Addr} {o : HO} (a : Wk e F L H) (hp : H p = none) : Wk e (upd F p o) L (upd H p o) where
  ff := fun x u h => by rw [upd_ne (ne_of_none (a.ff x u h) (Same.free a.fh hp))]; exact a.ff x u h
  hh := fun x u hx h => by rw [upd_ne (ne_of_none (a.hh x u hx h) hp)]; exact a.hh x u hx h
  th := fun x h => by
    by_cases hx : x = p
    · subst hx; rw [upd_same]; exact fun z => nomatch z
    · rw [upd_ne hx]; exact a.th x h
  fh := fun x u h => by
    by_cases hx : x = p
    · subst hx; rw [upd_same] at h ⊢; exact h
    · rw [upd_ne hx] at h ⊢; exact a.fh x u h
  nw := fun x h h' => by
    have hx : x ≠ p := fun z => by subst z; exact a.th x h hp
    rw [upd_ne hx]; exact a.nw x h h'
  tp := fun x xs h => by
    by_cases hx : x = p
    · subst hx; rw [upd_same] at h ⊢; exact h
    · rw [upd_ne hx] at h ⊢; exact a.tp x xs h
  ow := fun q hq => by
    obtain ⟨h1, h2, h3⟩ := a.ow q hq
    have hx : q.1 ≠ p := ne_of_none h2 hp
    exact ⟨by rw [upd_ne hx]; exact h1, by rw [upd_ne hx]; exact h2, h3⟩
  nd := a.nd
/-- an owned object is written -/
theorem Wk.put {e : En} {F : Hp} {L : LO} {H : Hp} {p : Addr} {o o' : HO} (a : Wk e F ((p, o) :: L) H) (ht : ∀ xs, o' ≠ .tup xs) : Wk e F ((p, o') :: L) (upd H p o') where
  ff := a.ff
  hh := fun x u hx h => by
    have hp : x ≠ p := fun z => by
      subst z
      rcases (a.ow (x, o) List.mem_cons_self).2.2 with z | z
      · rw [show e.H0 x = none from z] at h; cases h
      · exact hx z
    rw [upd_ne hp]; exact a.hh x u hx h
  th := fun x h => by
    by_cases hx : x = p
    · subst hx; rw [upd_same]; exact fun z => nomatch z
    · rw [upd_ne hx]; exact a.th x h
  fh := fun x u h => by
    rw [upd_ne (ne_of_none h (a.ow (p, o) List.mem_cons_self).1)]; exact a.fh x u h
  nw := a.nw
  tp := fun x xs h => by
    by_cases hx : x = p
    · subst hx; rw [upd_same] at h; exact absurd (Option.some.inj h) (ht xs)
    · rw [upd_ne hx] at h; exact a.tp x xs h
  ow := fun q hq => by
    rcases List.mem_cons.mp hq with rfl | hq
    · obtain ⟨h1, _, h3⟩ := a.ow (p, o) List.mem_cons_self
      exact ⟨h1, upd_same, h3⟩
    · obtain ⟨h1, h2, h3⟩ := a.ow q (List.mem_cons_of_mem _ hq)
      have hx : q.1 ≠ p := fun z => (List.nodup_cons.mp a.nd).1 (List.mem_map.mpr ⟨q, hq, z⟩)
      exact ⟨h1, by rw [upd_ne hx]; exact h2, h3⟩
  nd := by
    have h := a.nd
    exact h

/-! ### data -/
class Dat (α : Type) where
  rep : GCtx → Hp → V → α → Prop
  mono : ∀ {C : GCtx} {F F' : Hp} {v : V} {x : α}, Same F F' → rep C F v x → rep C F' v x
/-- data that may be owned: L is its footprint -/
class OD (α : Type) [d : Dat α] where
  orep : GCtx → Hp → V → α → LO → Prop
  omono : ∀ {C : GCtx} {F F' : Hp} {v : V} {x : α} {L : LO}, Same F F' → orep C F v x L → orep C F' v x L
  view : ∀ {C : GCtx} {F H : Hp} {v : V} {x : α} {L : LO}, orep C F v x L → Same F H → (∀ p ∈ L, H p.1 = some p.2) → d.rep C H v x
/-- data that no store can change -/
class Imm (α : Type) [d : Dat α] : Prop where
  imm : ∀ {C : GCtx} {F H : Hp} {v : V} {x : α}, (∀ a xs, H a = some (.tup xs) → F a = some (.tup xs)) → d.rep C H v x → d.rep C F v x

inductive Cell : Type 1 where
  | no : Cell
  | val {α : Type} (d : Dat α) (x : α) : Cell
  | own {α : Type} (d : Dat α) (od : OD α) (pin : Option V) (x : α) : Cell
abbrev cv {α : Type} [d : Dat α] (x : α) : Cell := .val d x
abbrev co {α : Type} [d : Dat α] [od : OD α] (x : α) : Cell := .own d od none x
def CellOk (C : GCtx) (F : Hp) (o : Option V) : Cell → LO → Prop
  | .no, L => L = []
  | .val d x, L => L = [] ∧ ∃ v, o = some v ∧ d.rep C F v x
  | .own _ od pin x, L => ∃ v, o = some v ∧ (∀ u, pin = some u → v = u) ∧ od.orep C F v x L
theorem CellOk.mono {C : GCtx} {F F' : Hp} {o : Option V} : ∀ {c : Cell} {L : LO}, Same F F' → CellOk C F o c L → CellOk C F' o c L
  | .no, _, _, h => h
  | .val d x, _, s, ⟨h, v, e, r⟩ => ⟨h, v, e, d.mono s r⟩
  | .own _ od pin x, _, s, ⟨v, e, p, r⟩ => ⟨v, e, p, od.omono s r⟩

inductive Slots (C : GCtx) (F : Hp) : St → List Cell → LO → Prop where
  | nil : Slots C F [] [] []
  | cons {o : Option V} {c : Cell} {L L' : LO} {σ : St} {Γ : List Cell} (h : CellOk C F o c L) (r : Slots C F σ Γ L') : Slots C F (o :: σ) (c :: Γ) (L ++ L')
theorem Slots.mono {C : GCtx} {F F' : Hp} {σ : St} {Γ : List Cell} {L : LO} (s : Same F F') (h : Slots C F σ Γ L) : Slots C F' σ Γ L := by
  induction h with
  | nil => exact .nil
  | cons h _ ih => exact .cons (h.mono s) ih
theorem Slots.len {C : GCtx} {F : Hp} {σ : St} {Γ : List Cell} {L : LO} (h : Slots C F σ Γ L) : σ.length = Γ.length := by
  induction h with
  | nil => rfl
  | cons h _ ih => simp [ih]
theorem Slots.get {C : GCtx} {F : Hp} {σ : St} {Γ : List Cell} {L : LO} (h : Slots C F σ Γ L) : ∀ {i : Nat} {c : Cell}, Γ[i]? = some c →
    ∃ o L1 Li L2, σ[i]? = some o ∧ L = L1 ++ Li ++ L2 ∧ CellOk C F o c Li ∧ ∀ F' o' c' Li', Same F F' → CellOk C F' o' c' Li' → Slots C F' (σ.set i o') (Γ.set i c') (L1 ++ Li' ++ L2) := by
  induction h with
  | nil => intro i c h; cases i <;> cases h
  | @cons o c0 L L' σ Γ h r ih =>
    intro i c hi
    cases i with
    | zero =>
      cases (Option.some.inj hi : c0 = c)
      exact ⟨o, [], L, L', rfl, rfl, h, fun F' o' c' Li' s h' => .cons h' (r.mono s)⟩
    | succ i =>
      obtain ⟨o1, L1, Li, L2, e1, e2, h1, f⟩ := ih (i := i) (c := c) hi
      refine ⟨o1, L ++ L1, Li, L2, e1, by rw [e2]; simp [List.append_assoc], h1, fun F' o' c' Li' s h' => ?_⟩
      have q := Slots.cons (h.mono s) (f F' o' c' Li' s h')
      simpa [List.append_assoc] using q
theorem Slots.take {C : GCtx} {F : Hp} {σ : St} {Γ : List Cell} {L : LO} (h : Slots C F σ Γ L) (n : Nat) : ∃ L1, Slots C F (σ.take n) (Γ.take n) L1 ∧ L1.Sublist L := by
  induction h generalizing n with
  | nil => exact ⟨[], by simpa using Slots.nil, List.Sublist.refl _⟩
  | @cons o c0 L L' σ Γ h r ih =>
    cases n with
    | zero => exact ⟨[], by simpa using Slots.nil, List.nil_sublist _⟩
    | succ n =>
      obtain ⟨L1, q, s⟩ := ih n
      exact ⟨L ++ L1, by simpa using Slots.cons h q, List.Sublist.append (List.Sublist.refl _) s⟩

/-- an exception: its class, its attributes -/
structure Exn where
  cls : Addr
  fs : Option (List (Str × V))
def Exn.at (x : Exn) (F : Hp) : Option Addr → Prop
  | none => x.fs = none
  | some dd => ∃ fs, x.fs = some fs ∧ F dd = some (.xd fs)
/-- where one stands: the def's world, what is wished of an exception that leaves, which ones may leave, and with what environment -/
structure YC where
  g : GCtx
  E : St → XK
  kx : Exn → List Cell → Prop
abbrev YC.K (Y : YC) : PySem.W.Frag := Y.g.K
abbrev YC.w (Y : YC) : World := Y.g.w
abbrev YC.P (Y : YC) : Program := Y.g.P
abbrev calm (C : GCtx) : YC := ⟨C, fun _ _ _ _ => False, fun _ _ => False⟩
def St0 (C : GCtx) (e : En) (F : Hp) (σ : St) (H : Hp) (Γ : List Cell) : Prop := ∃ L, Wk e F L H ∧ Slots C F σ Γ L
def XOk (Y : YC) (e : En) : Prop := ∀ (x : Exn) (d : Option Addr) (F : Hp) (σ : St) (H : Hp) (Γ : List Cell), Y.kx x Γ → St0 Y.g e F σ H Γ → x.at F d → Y.E σ (.ref x.cls) d H
/-- THE STATE: the slots hold what the environment says -/
def State (Y : YC) (e : En) (F : Hp) (σ : St) (H : Hp) (Γ : List Cell) : Prop := XOk Y e ∧ ∃ L, Wk e F L H ∧ Slots Y.g F σ Γ L
section
variable {C : GCtx} {Y : YC} {e : En} {F F' : Hp} {σ : St} {H H' : Hp} {Γ : List Cell}
theorem State.grow (s : State Y e F σ H Γ) (g : Gr F H F' H') : State Y e F' σ H' Γ := by
  obtain ⟨hx, L, k, sl⟩ := s
  exact ⟨hx, L, k.trans0 g, sl.mono g.ff⟩
theorem State.base (s : State Y e F σ H Γ) : Gr F H F H := let ⟨_, _, k, _⟩ := s; k.base
theorem State.fh (s : State Y e F σ H Γ) : Same F H := let ⟨_, _, k, _⟩ := s; k.fh
theorem State.val {α : Type} {d : Dat α} {x : α} {i : Nat} (s : State Y e F σ H Γ) (h : Γ[i]? = some (.val d x)) : ∃ v, σ[i]? = some (some v) ∧ d.rep Y.g F v x := by
  obtain ⟨hx, L, k, sl⟩ := s
  obtain ⟨o, L1, Li, L2, e1, _, ⟨_, v, rfl, r⟩, _⟩ := sl.get h
  exact ⟨v, e1, r⟩
theorem State.own {α : Type} {d : Dat α} {od : OD α} {x : α} {i : Nat} {pin : Option V} (s : State Y e F σ H Γ) (h : Γ[i]? = some (.own d od pin x)) : ∃ v, σ[i]? = some (some v) ∧ d.rep Y.g H v x := by
  obtain ⟨hx, L, k, sl⟩ := s
  obtain ⟨o, L1, Li, L2, e1, e2, ⟨v, rfl, _, r⟩, _⟩ := sl.get h
  exact ⟨v, e1, od.view r k.fh fun p hp => (k.ow p (by rw [e2]; exact List.mem_append_left _ (List.mem_append_right _ hp))).2.1⟩
/-- a slot is stored -/
theorem State.set {c c' : Cell} {i : Nat} {v : V} {L' : LO} (s : State Y e F σ H Γ) (h : Γ[i]? = some c) (g : Wk ⟨F, H, []⟩ F' L' H') (r : CellOk Y.g F' (some v) c' L') : State Y e F' (σ.set i (some v)) H' (Γ.set i c') := by
  obtain ⟨hx, L, k, sl⟩ := s
  obtain ⟨o, L1, Li, L2, e1, e2, _, f⟩ := sl.get h
  refine ⟨hx, L1 ++ L' ++ L2, ?_, f F' (some v) c' L' g.ff r⟩
  have q := k.trans g
  rw [e2] at q
  have q2 : Wk e F' ((L' ++ L1) ++ Li ++ L2) H' := by simpa [List.append_assoc] using q
  have q3 := q2.drop
  have q4 : Wk e F' (L' ++ (L1 ++ L2)) H' := by simpa [List.append_assoc] using q3
  exact q4.back
/-- a slot is forgotten -/
theorem State.forget {i : Nat} {c : Cell} {o : Option V} (s : State Y e F σ H Γ) (h : Γ[i]? = some c) : State Y e F (σ.set i o) H (Γ.set i .no) := by
  obtain ⟨hx, L, k, sl⟩ := s
  obtain ⟨o1, L1, Li, L2, e1, e2, _, f⟩ := sl.get h
  rw [e2] at k
  have q := f F o .no [] (Same.refl _) rfl
  rw [List.append_nil] at q
  exact ⟨hx, L1 ++ L2, k.drop, q⟩
theorem State.hide {i : Nat} {c : Cell} (s : State Y e F σ H Γ) (h : Γ[i]? = some c) : State Y e F σ H (Γ.set i .no) := by
  obtain ⟨hx, L, k, sl⟩ := s
  obtain ⟨o1, L1, Li, L2, e1, e2, _, f⟩ := sl.get h
  rw [e2] at k
  have q := f F o1 .no [] (Same.refl _) rfl
  rw [List.append_nil] at q
  have z : σ.set i o1 = σ := by
    apply List.ext_getElem?
    intro j
    by_cases hj : i = j
    · subst hj
      obtain ⟨hlt, hv⟩ := List.getElem?_eq_some_iff.mp e1
      rw [List.getElem?_set_self hlt, e1]
    · rw [List.getElem?_set_ne hj]
  rw [z] at q
  exact ⟨hx, L1 ++ L2, k.drop, q⟩
end
end G

/-! G2: data, judgements, the rules for expressions. -/
namespace G
open PySem L2

theorem Wk.hh0 {F H F' H' : Hp} {L : LO} (g : Wk ⟨F, H, []⟩ F' L H') : Same H H' := fun a o h => g.hh a o (fun z => nomatch z) h

/-! ### scalars -/
instance dInt : Dat Int := ⟨fun _ _ v x => v = .int x, fun _ h => h⟩
instance dBool : Dat Bool := ⟨fun _ _ v x => v = .bl x, fun _ h => h⟩
instance dStr : Dat Str := ⟨fun _ _ v x => v = .str x, fun _ h => h⟩
instance dUnit : Dat Unit := ⟨fun _ _ v _ => v = .non, fun _ h => h⟩
instance imInt : Imm Int := ⟨fun _ h => h⟩
instance imBool : Imm Bool := ⟨fun _ h => h⟩
instance imStr : Imm Str := ⟨fun _ h => h⟩
instance imUnit : Imm Unit := ⟨fun _ h => h⟩
/-- None or a value -/
inductive Opt (α : Type) where
  | none : Opt α
  | some (x : α) : Opt α
  deriving DecidableEq
instance dOpt {α : Type} [d : Dat α] : Dat (Opt α) := ⟨fun C F v x => match x with | .none => v = .non | .some y => d.rep C F v y, fun {C F F' v x} s h => match x, h with | .none, h => h | .some _, h => d.mono s h⟩
instance imOpt {α : Type} [d : Dat α] [i : Imm α] : Imm (Opt α) := ⟨fun {C F H v x} t h => match x, h with | .none, h => h | .some _, h => i.imm t h⟩

/-! ### lists -/
def Reps {α : Type} (d : Dat α) (C : GCtx) (F : Hp) : List V → List α → Prop
  | [], [] => True
  | v :: vs, x :: xs => d.rep C F v x ∧ Reps d C F vs xs
  | _, _ => False
section
variable {α : Type} {d : Dat α} {C : GCtx} {Y : YC} {F F' : Hp}
theorem Reps.mono (s : Same F F') : ∀ {vs : List V} {xs : List α}, Reps d C F vs xs → Reps d C F' vs xs
  | [], [], _ => trivial
  | _ :: _, _ :: _, h => ⟨d.mono s h.1, Reps.mono s h.2⟩
  | [], _ :: _, h => h.elim
  | _ :: _, [], h => h.elim
theorem Reps.len : ∀ {vs : List V} {xs : List α}, Reps d C F vs xs → vs.length = xs.length
  | [], [], _ => rfl
  | _ :: _, _ :: _, h => by simp [Reps.len h.2]
  | [], _ :: _, h => h.elim
  | _ :: _, [], h => h.elim
theorem Reps.get : ∀ {vs : List V} {xs : List α} {i : Nat} {x : α}, Reps d C F vs xs → xs[i]? = some x → ∃ v, vs[i]? = some v ∧ d.rep C F v x
  | [], [], i, x, _, h => by cases i <;> cases h
  | v :: vs, y :: xs, 0, x, h, e => by cases (Option.some.inj e : y = x); exact ⟨v, rfl, h.1⟩
  | v :: vs, y :: xs, i + 1, x, h, e => Reps.get (i := i) h.2 e
  | [], _ :: _, _, _, h, _ => h.elim
  | _ :: _, [], _, _, h, _ => h.elim
theorem Reps.getV : ∀ {vs : List V} {xs : List α} {i : Nat} {v : V}, Reps d C F vs xs → vs[i]? = some v → ∃ x, xs[i]? = some x ∧ d.rep C F v x
  | [], [], i, x, _, h => by cases i <;> cases h
  | v :: vs, y :: xs, 0, x, h, e => by cases (Option.some.inj e : v = x); exact ⟨y, rfl, h.1⟩
  | v :: vs, y :: xs, i + 1, x, h, e => Reps.getV (i := i) h.2 e
  | [], _ :: _, _, _, h, _ => h.elim
  | _ :: _, [], _, _, h, _ => h.elim
theorem Reps.append : ∀ {vs ws : List V} {xs ys : List α}, Reps d C F vs xs → Reps d C F ws ys → Reps d C F (vs ++ ws) (xs ++ ys)
  | [], _, [], _, _, h => h
  | _ :: _, _, _ :: _, _, h, g => ⟨h.1, Reps.append h.2 g⟩
  | [], _, _ :: _, _, h, _ => h.elim
  | _ :: _, _, [], _, h, _ => h.elim
theorem Reps.one {v : V} {x : α} (h : d.rep C F v x) : Reps d C F [v] [x] := ⟨h, trivial⟩
theorem Reps.take : ∀ {vs : List V} {xs : List α} (n : Nat), Reps d C F vs xs → Reps d C F (vs.take n) (xs.take n)
  | [], [], n, _ => by simp [Reps]
  | _ :: _, _ :: _, 0, _ => trivial
  | _ :: _, _ :: _, n + 1, h => ⟨h.1, Reps.take n h.2⟩
  | [], _ :: _, _, h => h.elim
  | _ :: _, [], _, h => h.elim
theorem Reps.drop : ∀ {vs : List V} {xs : List α} (n : Nat), Reps d C F vs xs → Reps d C F (vs.drop n) (xs.drop n)
  | [], [], n, _ => by simp [Reps]
  | _ :: _, _ :: _, 0, h => h
  | _ :: _, _ :: _, n + 1, h => Reps.drop n h.2
  | [], _ :: _, _, h => h.elim
  | _ :: _, [], _, h => h.elim
theorem Reps.set {v : V} {x : α} : ∀ {vs : List V} {xs : List α} (i : Nat), Reps d C F vs xs → d.rep C F v x → Reps d C F (vs.set i v) (xs.set i x)
  | [], [], _, _, _ => trivial
  | _ :: _, _ :: _, 0, h, g => ⟨g, h.2⟩
  | _ :: _, _ :: _, i + 1, h, g => ⟨h.1, Reps.set i h.2 g⟩
  | [], _ :: _, _, h, _ => h.elim
  | _ :: _, [], _, h, _ => h.elim
theorem Reps.ints : ∀ {vs : List V} {xs : List Int}, Reps dInt C F vs xs → vs = xs.map V.int
  | [], [], _ => rfl
  | _ :: _, _ :: _, h => by rw [Reps.ints h.2, show _ = V.int _ from h.1]; rfl
  | [], _ :: _, h => h.elim
  | _ :: _, [], h => h.elim
theorem Reps.ofInts : ∀ (xs : List Int), Reps dInt C F (xs.map V.int) xs
  | [] => trivial
  | _ :: xs => ⟨rfl, Reps.ofInts xs⟩
theorem Reps.bools : ∀ {vs : List V} {xs : List Bool}, Reps dBool C F vs xs → vs = xs.map V.bl
  | [], [], _ => rfl
  | _ :: _, _ :: _, h => by rw [Reps.bools h.2, show _ = V.bl _ from h.1]; rfl
  | [], _ :: _, h => h.elim
  | _ :: _, [], h => h.elim
theorem Reps.imm [i : @Imm α d] {H : Hp} (t : ∀ a xs, H a = some (.tup xs) → F a = some (.tup xs)) : ∀ {vs : List V} {xs : List α}, Reps d C H vs xs → Reps d C F vs xs
  | [], [], _ => trivial
  | _ :: _, _ :: _, h => ⟨i.imm t h.1, Reps.imm t h.2⟩
  | [], _ :: _, h => h.elim
  | _ :: _, [], h => h.elim
end
/-- a tuple that stands still: frozen, or of the written part -/
def TpA (K : PySem.W.Frag) (F : Hp) (a : Addr) (xs : List V) : Prop := F a = some (.tup xs) ∨ (SqT K (fun _ => none) a xs ∧ xs ≠ [] ∧ ∀ x ∈ xs, ∃ t, x = V.str t)
theorem TpA.mono {K : PySem.W.Frag} {F F' : Hp} {a : Addr} {xs : List V} (s : Same F F') (h : TpA K F a xs) : TpA K F' a xs := h.imp (s a _) id
theorem TpA.sq {K : PySem.W.Frag} {F : Hp} {a : Addr} {xs : List V} (h : TpA K F a xs) : SqT K F a xs := by
  rcases h with h | ⟨h, _⟩
  · exact .inl (.inl h)
  · rcases h with (h | ⟨_, h⟩) | h
    · cases h
    · cases h
    · exact .inr h
/-- a list that is tracked -/
theorem Same.rd {H H' : Hp} {a : Addr} {u : HO} (e : Same H H') (h : Rd H a u) : Rd H' a u := h.imp (e _ _) fun ⟨o, h⟩ => ⟨o, e _ _ h⟩
instance {K : PySem.W.Frag} {H : Hp} {a : Addr} {xs : List V} : Coe (Rd H a (.lst xs)) (SqL K H a xs) := ⟨.inl⟩
instance dList {α : Type} [d : Dat α] : Dat (List α) :=
  ⟨fun C F v xs => ∃ a vs, v = .ref a ∧ Rd F a (.lst vs) ∧ Reps d C F vs xs, fun s ⟨a, vs, e, h, r⟩ => ⟨a, vs, e, Same.rd s h, r.mono s⟩⟩
instance oList {α : Type} [d : Dat α] : OD (List α) where
  orep C F v xs L := ∃ a vs, v = .ref a ∧ L = [(a, .lst vs)] ∧ Reps d C F vs xs
  omono s := fun ⟨a, vs, e, h, r⟩ => ⟨a, vs, e, h, r.mono s⟩
  view := fun ⟨a, vs, e, h, r⟩ s k => ⟨a, vs, e, .inl (k (a, .lst vs) (by rw [h]; exact List.mem_cons_self)), r.mono s⟩
/-- a tuple of any length, its items alike -/
structure Tup (α : Type) where
  l : List α
  deriving DecidableEq
instance dTup {α : Type} [d : Dat α] : Dat (Tup α) :=
  ⟨fun C F v xs => ∃ a vs, v = .ref a ∧ TpA C.K F a vs ∧ Reps d C F vs xs.l, fun s ⟨a, vs, e, h, r⟩ => ⟨a, vs, e, h.mono s, r.mono s⟩⟩
instance imTup {α : Type} [d : Dat α] [i : Imm α] : Imm (Tup α) := ⟨fun t ⟨a, vs, e, h, r⟩ => ⟨a, vs, e, h.imp (t a _) id, r.imm t⟩⟩
instance dPair {α β : Type} [d1 : Dat α] [d2 : Dat β] : Dat (α × β) :=
  ⟨fun C F v x => ∃ a v1 v2, v = .ref a ∧ TpA C.K F a [v1, v2] ∧ d1.rep C F v1 x.1 ∧ d2.rep C F v2 x.2, fun s ⟨a, v1, v2, e, h, r1, r2⟩ => ⟨a, v1, v2, e, h.mono s, d1.mono s r1, d2.mono s r2⟩⟩
instance imPair {α β : Type} [d1 : Dat α] [d2 : Dat β] [i1 : Imm α] [i2 : Imm β] : Imm (α × β) := ⟨fun t ⟨a, v1, v2, e, h, r1, r2⟩ => ⟨a, v1, v2, e, h.imp (t a _) id, i1.imm t r1, i2.imm t r2⟩⟩
structure T3 (α β γ : Type) where
  a : α
  b : β
  c : γ
  deriving DecidableEq
structure T4 (α β γ δ : Type) where
  a : α
  b : β
  c : γ
  d : δ
  deriving DecidableEq
instance dT3 {α β γ : Type} [d1 : Dat α] [d2 : Dat β] [d3 : Dat γ] : Dat (T3 α β γ) :=
  ⟨fun C F v x => ∃ a v1 v2 v3, v = .ref a ∧ TpA C.K F a [v1, v2, v3] ∧ d1.rep C F v1 x.a ∧ d2.rep C F v2 x.b ∧ d3.rep C F v3 x.c,
    fun s ⟨a, v1, v2, v3, e, h, r1, r2, r3⟩ => ⟨a, v1, v2, v3, e, h.mono s, d1.mono s r1, d2.mono s r2, d3.mono s r3⟩⟩
instance imT3 {α β γ : Type} [d1 : Dat α] [d2 : Dat β] [d3 : Dat γ] [i1 : Imm α] [i2 : Imm β] [i3 : Imm γ] : Imm (T3 α β γ) :=
  ⟨fun t ⟨a, v1, v2, v3, e, h, r1, r2, r3⟩ => ⟨a, v1, v2, v3, e, h.imp (t a _) id, i1.imm t r1, i2.imm t r2, i3.imm t r3⟩⟩
instance dT4 {α β γ δ : Type} [d1 : Dat α] [d2 : Dat β] [d3 : Dat γ] [d4 : Dat δ] : Dat (T4 α β γ δ) :=
  ⟨fun C F v x => ∃ a v1 v2 v3 v4, v = .ref a ∧ TpA C.K F a [v1, v2, v3, v4] ∧ d1.rep C F v1 x.a ∧ d2.rep C F v2 x.b ∧ d3.rep C F v3 x.c ∧ d4.rep C F v4 x.d,
    fun s ⟨a, v1, v2, v3, v4, e, h, r1, r2, r3, r4⟩ => ⟨a, v1, v2, v3, v4, e, h.mono s, d1.mono s r1, d2.mono s r2, d3.mono s r3, d4.mono s r4⟩⟩
instance imT4 {α β γ δ : Type} [d1 : Dat α] [d2 : Dat β] [d3 : Dat γ] [d4 : Dat δ] [i1 : Imm α] [i2 : Imm β] [i3 : Imm γ] [i4 : Imm δ] : Imm (T4 α β γ δ) :=
  ⟨fun t ⟨a, v1, v2, v3, v4, e, h, r1, r2, r3, r4⟩ => ⟨a, v1, v2, v3, v4, e, h.imp (t a _) id, i1.imm t r1, i2.imm t r2, i3.imm t r3, i4.imm t r4⟩⟩

/-! ### judgements -/
/-- the term evaluates to a value that k is true of, frozen from now on -/
def W (Y : YC) (te : TE) (Γ : List Cell) {α : Type} (d : Dat α) (k : α → Prop) : Prop := ∀ (e : En) (F : Hp) (σ : St) (H : Hp), State Y e F σ H Γ → ∀ Q : VK, (∀ v F' H' x, k x → Gr F H F' H' → d.rep Y.g F' v x → Q v H') → te σ H Q
/-- .. that may be read until the next store -/
def R (Y : YC) (te : TE) (Γ : List Cell) {α : Type} (d : Dat α) (k : α → Prop) : Prop := ∀ (e : En) (F : Hp) (σ : St) (H : Hp), State Y e F σ H Γ → ∀ Q : VK, (∀ v F' H' x, k x → Gr F H F' H' → d.rep Y.g H' v x → Q v H') → te σ H Q
/-- .. that is new, and owned -/
def O (Y : YC) (te : TE) (Γ : List Cell) {α : Type} {d : Dat α} (od : OD α) (k : α → Prop) : Prop := ∀ (e : En) (F : Hp) (σ : St) (H : Hp), State Y e F σ H Γ → ∀ Q : VK, (∀ v F' H' L' x, k x → Wk ⟨F, H, []⟩ F' L' H' → od.orep Y.g F' v x L' → Q v H') → te σ H Q
def T (Y : YC) (t : TT) (Γ : List Cell) (k : Bool → Prop) : Prop := ∀ (e : En) (F : Hp) (σ : St) (H : Hp), State Y e F σ H Γ → ∀ Q : Bool → Hp → Prop, (∀ b F' H', k b → Gr F H F' H' → Q b H') → t σ H Q
def WA (Y : YC) (ta : TA) (Γ : List Cell) (k : List Cell → Prop) : Prop := ∀ (e : En) (F : Hp) (σ : St) (H : Hp), State Y e F σ H Γ → ∀ Q : List V → Hp → Prop, (∀ vs F' H' cs, k cs → Gr F H F' H' → Slots Y.g F' (vs.map some) cs [] → Q vs H') → ta σ H Q

section
variable {C : GCtx} {Y : YC} {Γ : List Cell} {te ta tb tc : TE} {t u : TT} {α β γ : Type} {d1 : Dat α} {d : Dat α} {d2 : Dat β} {d3 : Dat γ}

theorem r_of_w {k : α → Prop} (h : W Y te Γ d k) : R Y te Γ d k := fun e F σ H s Q q => h e F σ H s Q fun v F' H' x kx g r => q v F' H' x kx g (d.mono g.fh r)
theorem w_of_r [i : @Imm α d] {k : α → Prop} (h : R Y te Γ d k) : W Y te Γ d k := fun e F σ H s Q q => h e F σ H s Q fun v F' H' x kx g r => q v F' H' x kx g (i.imm g.tp r)
theorem w_mono {k k' : α → Prop} (h : W Y te Γ d k) (m : ∀ x, k x → k' x) : W Y te Γ d k' := fun e F σ H s Q q => h e F σ H s Q fun v F' H' x kx g r => q v F' H' x (m x kx) g r
theorem t_mono {k k' : Bool → Prop} (h : T Y t Γ k) (m : ∀ x, k x → k' x) : T Y t Γ k' := fun e F σ H s Q q => h e F σ H s Q fun b F' H' kx g => q b F' H' (m b kx) g
/-- what is owned and new is frozen at once -/
theorem w_of_o {od : @OD α d} {k : α → Prop} (h : O Y te Γ od k) : W Y te Γ d k := fun e F σ H s Q q => h e F σ H s Q fun v F' H' L' x kx g r => by
  have g1 : Wk ⟨F, H, []⟩ F' (L' ++ []) H' := by rw [List.append_nil]; exact g
  have g2 : Gr F H (plus F' L') H' := g1.freeze fun p hp z => nomatch z
  refine q v _ H' x kx g2 (od.view r (same_plus (fun p hp => (g.ow p hp).1) g.nd) (plus_get (fun p hp => (g.ow p hp).1) g.nd))

/-! names and constants -/
theorem w_var {i : Nat} {x : α} {k : α → Prop} (h : Γ[i]? = some (.val d x)) (hk : k x) : W Y (tVar i) Γ d k := fun e F σ H s Q q => by
  obtain ⟨v, e1, r⟩ := s.val h
  exact ⟨v, e1, q v F H x hk s.base r⟩
theorem r_varO {od : @OD α d} {pin : Option V} {i : Nat} {x : α} {k : α → Prop} (h : Γ[i]? = some (.own d od pin x)) (hk : k x) : R Y (tVar i) Γ d k := fun e F σ H s Q q => by
  obtain ⟨v, e1, r⟩ := s.own h
  exact ⟨v, e1, q v F H x hk s.base r⟩
theorem w_int {n : Int} {k : Int → Prop} (hk : k n) : W Y (tC (.int n)) Γ dInt k := fun e F σ H s Q q => q _ F H n hk s.base rfl
theorem w_bl {n : Bool} {k : Bool → Prop} (hk : k n) : W Y (tC (.bl n)) Γ dBool k := fun e F σ H s Q q => q _ F H n hk s.base rfl
theorem w_nonO {k : Opt α → Prop} (hk : k .none) : W Y (tC .non) Γ (dOpt (d := d)) k := fun e F σ H s Q q => q _ F H .none hk s.base rfl
theorem w_some {k : Opt α → Prop} (h : W Y te Γ d fun x => k (.some x)) : W Y te Γ (dOpt (d := d)) k := fun e F σ H s Q q => h e F σ H s Q fun v F' H' x kx g r => q v F' H' (.some x) kx g r

/-! two operands, a scalar back -/
theorem w_ii {r : R2} {f : Int → Int → γ} {P : Int → Int → Prop} {ec : γ → V} {k : γ → Prop} (hd : ∀ F z, d3.rep Y.g F (ec z) z) (hr : ∀ i j H (Q : VK), P i j → Q (ec (f i j)) H → r (.int i) (.int j) H Q)
    (h : R Y ta Γ dInt fun x => R Y tb Γ dInt fun y => P x y ∧ k (f x y)) : W Y (tOp r ta tb) Γ d3 k :=
  fun e F σ H s Q q => h e F σ H s _ fun v1 F1 H1 x h1 g1 r1 => h1 e F1 σ H1 (s.grow g1) _ fun v2 F2 H2 y ⟨p, kz⟩ g2 r2 => by
    cases (show v1 = .int x from r1)
    cases (show v2 = .int y from r2)
    exact hr x y H2 Q p (q _ F2 H2 _ kz (g1.trans0 g2) (hd F2 _))
theorem w_i0 {r : R2} {f : Int → Int → γ} {ec : γ → V} {k : γ → Prop} (hd : ∀ F z, d3.rep Y.g F (ec z) z) (hr : ∀ i j H (Q : VK), Q (ec (f i j)) H → r (.int i) (.int j) H Q)
    (h : R Y ta Γ dInt fun x => R Y tb Γ dInt fun y => k (f x y)) : W Y (tOp r ta tb) Γ d3 k :=
  fun e F σ H s Q q => h e F σ H s _ fun v1 F1 H1 x h1 g1 r1 => h1 e F1 σ H1 (s.grow g1) _ fun v2 F2 H2 y kz g2 r2 => by
    cases (show v1 = .int x from r1)
    cases (show v2 = .int y from r2)
    exact hr x y H2 Q (q _ F2 H2 _ kz (g1.trans0 g2) (hd F2 _))
section
variable {k : Int → Prop} {kb : Bool → Prop}
theorem w_add (h : R Y ta Γ dInt fun x => R Y tb Γ dInt fun y => k (x + y)) : W Y (tOp (rI0 fun i j => .int (i + j)) ta tb) Γ dInt k := w_i0 (ec := V.int) (fun _ _ => rfl) (fun i j H Q q => ⟨i, j, rfl, rfl, q⟩) h
theorem w_sub (h : R Y ta Γ dInt fun x => R Y tb Γ dInt fun y => k (x - y)) : W Y (tOp (rI0 fun i j => .int (i - j)) ta tb) Γ dInt k := w_i0 (ec := V.int) (fun _ _ => rfl) (fun i j H Q q => ⟨i, j, rfl, rfl, q⟩) h
theorem w_mul (h : R Y ta Γ dInt fun x => R Y tb Γ dInt fun y => CMul x y ∧ k (x * y)) : W Y (tOp (rI CMul fun i j => .int (i * j)) ta tb) Γ dInt k := w_ii (ec := V.int) (fun _ _ => rfl) (fun i j H Q p q => ⟨i, j, rfl, rfl, p, q⟩) h
theorem w_mod (h : R Y ta Γ dInt fun x => R Y tb Γ dInt fun y => 0 < y ∧ k (x % y)) : W Y (tOp (rI (fun _ j => 0 < j) fun i j => .int (i % j)) ta tb) Γ dInt k := w_ii (P := fun _ j => 0 < j) (ec := V.int) (fun _ _ => rfl) (fun i j H Q p q => ⟨i, j, rfl, rfl, p, q⟩) h
theorem w_fdiv (h : R Y ta Γ dInt fun x => R Y tb Γ dInt fun y => CDiv x y ∧ k (x / y)) : W Y (tOp (rI CDiv fun i j => .int (i / j)) ta tb) Γ dInt k := w_ii (ec := V.int) (fun _ _ => rfl) (fun i j H Q p q => ⟨i, j, rfl, rfl, p, q⟩) h
theorem w_pow (h : R Y ta Γ dInt fun x => R Y tb Γ dInt fun y => CPow x y ∧ k (x ^ y.toNat)) : W Y (tOp (rI CPow fun i j => .int (i ^ j.toNat)) ta tb) Γ dInt k := w_ii (ec := V.int) (fun _ _ => rfl) (fun i j H Q p q => ⟨i, j, rfl, rfl, p, q⟩) h
theorem w_lt (h : R Y ta Γ dInt fun x => R Y tb Γ dInt fun y => kb (decide (x < y))) : W Y (tOp (rI0 fun i j => .bl (decide (i < j))) ta tb) Γ dBool kb := w_i0 (f := fun i j => decide (i < j)) (ec := V.bl) (fun _ _ => rfl) (fun i j H Q q => ⟨i, j, rfl, rfl, q⟩) h
theorem w_gt (h : R Y ta Γ dInt fun x => R Y tb Γ dInt fun y => kb (decide (y < x))) : W Y (tOp (rI0 fun i j => .bl (decide (j < i))) ta tb) Γ dBool kb := w_i0 (f := fun i j => decide (j < i)) (ec := V.bl) (fun _ _ => rfl) (fun i j H Q q => ⟨i, j, rfl, rfl, q⟩) h
theorem w_ge (h : R Y ta Γ dInt fun x => R Y tb Γ dInt fun y => kb (decide (y ≤ x))) : W Y (tOp (rI0 fun i j => .bl (decide (j ≤ i))) ta tb) Γ dBool kb := w_i0 (f := fun i j => decide (j ≤ i)) (ec := V.bl) (fun _ _ => rfl) (fun i j H Q q => ⟨i, j, rfl, rfl, q⟩) h
theorem w_neg (h : R Y ta Γ dInt fun x => k (-x)) : W Y (tUn (rU fun i => .int (-i)) ta) Γ dInt k := fun e F σ H s Q q => h e F σ H s _ fun v F' H' x kx g r => by
  cases (show v = .int x from r)
  exact ⟨x, rfl, q _ F' H' _ kx g rfl⟩
end

/-! tests -/
theorem t_test {k : Bool → Prop} (h : R Y te Γ dBool k) : T Y (tTest te) Γ k := fun e F σ H s Q q => h e F σ H s _ fun v F' H' x kx g r => ⟨x, r, q x F' H' kx g⟩
theorem t_B {k : Bool → Prop} (h : R Y te Γ dBool k) : T Y (tB te) Γ k := fun e F σ H s Q q => h e F σ H s _ fun v F' H' x kx g r => ⟨x, r, q x F' H' kx g⟩
theorem t_not {k : Bool → Prop} (h : T Y t Γ fun b => k (!b)) : T Y (tNot t) Γ k := fun e F σ H s Q q => h e F σ H s _ fun b F' H' kx g => q (!b) F' H' kx g
theorem t_and {k : Bool → Prop} (h : T Y t Γ fun b => (b = true → T Y u Γ k) ∧ (b = false → k false)) : T Y (tAnd t u) Γ k := fun e F σ H s Q q => h e F σ H s _ fun b F' H' kx g => by
  cases b with
  | true => exact kx.1 rfl e F' σ H' (s.grow g) Q fun b F2 H2 kb g2 => q b F2 H2 kb (g.trans0 g2)
  | false => exact q false F' H' (kx.2 rfl) g
theorem t_or {k : Bool → Prop} (h : T Y t Γ fun b => (b = true → k true) ∧ (b = false → T Y u Γ k)) : T Y (tOr t u) Γ k := fun e F σ H s Q q => h e F σ H s _ fun b F' H' kx g => by
  cases b with
  | false => exact kx.2 rfl e F' σ H' (s.grow g) Q fun b F2 H2 kb g2 => q b F2 H2 kb (g.trans0 g2)
  | true => exact q true F' H' (kx.1 rfl) g
/-! values by tests -/
theorem w_andV {k : Bool → Prop} (h : R Y ta Γ dBool fun a => (a = true → W Y tb Γ dBool k) ∧ (a = false → k false)) : W Y (tAndV ta tb) Γ dBool k := fun e F σ H s Q q => h e F σ H s _ fun v F' H' x kx g r => ⟨x, r, by
  cases x with
  | true => exact kx.1 rfl e F' σ H' (s.grow g) Q fun v F2 H2 x kb g2 r => q v F2 H2 x kb (g.trans0 g2) r
  | false => exact q _ F' H' false (kx.2 rfl) g rfl⟩
theorem r_mono {k k' : α → Prop} (h : R Y te Γ d k) (m : ∀ x, k x → k' x) : R Y te Γ d k' := fun e F σ H s Q q => h e F σ H s Q fun v F' H' x kx g r => q v F' H' x (m x kx) g r
theorem w_notV {k : Bool → Prop} (h : R Y ta Γ dBool fun a => k (!a)) : W Y (tNotV ta) Γ dBool k := fun e F σ H s Q q => h e F σ H s _ fun v F' H' x kx g r => ⟨x, r, q _ F' H' (!x) kx g rfl⟩
/-! arguments -/
theorem wa_nil {k : List Cell → Prop} (hk : k []) : WA Y tNil Γ k := fun e F σ H s Q q => q [] F H [] hk s.base .nil
theorem wa_cons {tr : TA} {k : List Cell → Prop} (h : W Y te Γ d fun x => WA Y tr Γ fun cs => k (.val d x :: cs)) : WA Y (tCons te tr) Γ k := fun e F σ H s Q q => h e F σ H s _ fun v F1 H1 x h1 g1 r1 => h1 e F1 σ H1 (s.grow g1) _ fun vs F2 H2 cs kc g2 r2 =>
  q (v :: vs) F2 H2 (.val d x :: cs) kc (g1.trans0 g2) (Slots.cons (L := []) ⟨rfl, v, rfl, d.mono g2.ff r1⟩ r2)

/-! built-ins of numbers -/
theorem w_abs {k : Int → Prop} (h : R Y ta Γ dInt fun x => k (if x < 0 then -x else x)) : W Y (tCB (fun xs H Q => ∃ i, xs = [.int i] ∧ Q (.int (if i < 0 then -i else i)) H) (tCons ta tNil)) Γ dInt k := fun e F σ H s Q q => h e F σ H s _ fun v F' H' x kx g r => by
  cases (show v = .int x from r)
  exact ⟨x, rfl, q _ F' H' _ kx g rfl⟩
theorem w_int1 {k : Int → Prop} (h : R Y ta Γ dInt k) : W Y (tCB (fun xs H Q => (∃ i, xs = [.int i] ∧ Q (.int i) H) ∨ ∃ k, xs = [.bl k] ∧ Q (.int (if k then 1 else 0)) H) (tCons ta tNil)) Γ dInt k := fun e F σ H s Q q => h e F σ H s _ fun v F' H' x kx g r => by
  cases (show v = .int x from r)
  exact .inl ⟨x, rfl, q _ F' H' _ kx g rfl⟩
theorem w_min2 {k : Int → Prop} (h : R Y ta Γ dInt fun x => R Y tb Γ dInt fun y => k (if y < x then y else x)) : W Y (tCB (fun xs H Q => ∃ i j, xs = [.int i, .int j] ∧ Q (.int (if j < i then j else i)) H) (tCons ta (tCons tb tNil))) Γ dInt k := fun e F σ H s Q q => h e F σ H s _ fun v1 F1 H1 x h1 g1 r1 => h1 e F1 σ H1 (s.grow g1) _ fun v2 F2 H2 y ky g2 r2 => by
  cases (show v1 = .int x from r1)
  cases (show v2 = .int y from r2)
  exact ⟨x, y, rfl, q _ F2 H2 _ ky (g1.trans0 g2) rfl⟩
/-! lists and tuples that are read -/
theorem w_len {k : Int → Prop} (h : R Y ta Γ (dList (d := d)) fun xs => k (xs.length : Int)) : W Y (tCB (fun xs H Q => ∃ p ys, xs = [.ref p] ∧ (SqL Y.K H p ys ∨ SqT Y.K H p ys) ∧ Q (.int ys.length) H) (tCons ta tNil)) Γ dInt k := fun e F σ H s Q q => h e F σ H s _ fun v F' H' x kx g ⟨a, vs, e1, h1, r⟩ => by
  subst e1
  exact ⟨a, vs, rfl, .inl h1, q _ F' H' _ (by rw [r.len]; exact kx) g rfl⟩
theorem w_lenT {k : Int → Prop} (h : R Y ta Γ (dTup (d := d)) fun xs => k (xs.l.length : Int)) : W Y (tCB (fun xs H Q => ∃ p ys, xs = [.ref p] ∧ (SqL Y.K H p ys ∨ SqT Y.K H p ys) ∧ Q (.int ys.length) H) (tCons ta tNil)) Γ dInt k := fun e F σ H s Q q => h e F σ H s _ fun v F' H' x kx g ⟨a, vs, e1, h1, r⟩ => by
  subst e1
  exact ⟨a, vs, rfl, .inr h1.sq, q _ F' H' _ (by rw [r.len]; exact kx) g rfl⟩
theorem atI_rep {F : Hp} {vs : List V} {xs : List α} {i : Int} {x : α} (r : Reps d C F vs xs) (h : atI xs i = some x) : ∃ v, atI vs i = some v ∧ d.rep C F v x := by
  unfold atI at h ⊢
  rw [r.len]
  cases e : ixN xs.length i with
  | none => rw [e] at h; cases h
  | some j => rw [e] at h; exact r.get h
theorem w_ix {k : α → Prop} (h : W Y ta Γ (dList (d := d)) fun xs => R Y tb Γ dInt fun i => ∃ x, atI xs i = some x ∧ k x) : W Y (tOp (rIxL Y.K) ta tb) Γ d k := fun e F σ H s Q q => h e F σ H s _ fun v1 F1 H1 xs h1 g1 ⟨a, vs, e1, hs, r⟩ => h1 e F1 σ H1 (s.grow g1) _ fun v2 F2 H2 i ⟨x, hx, kx⟩ g2 r2 => by
  subst e1
  cases (show v2 = .int i from r2)
  obtain ⟨v, hv, rv⟩ := atI_rep r hx
  exact ⟨a, vs, i, v, rfl, rfl, (g1.fh.trans g2.hh0).seq hs, hv, q _ F2 H2 x kx (g1.trans0 g2) (d.mono g2.ff rv)⟩
theorem w_ixT {k : α → Prop} (h : W Y ta Γ (dTup (d := d)) fun xs => R Y tb Γ dInt fun i => ∃ x, atI xs.l i = some x ∧ k x) : W Y (tOp (rIxT Y.K) ta tb) Γ d k := fun e F σ H s Q q => h e F σ H s _ fun v1 F1 H1 xs h1 g1 ⟨a, vs, e1, hs, r⟩ => h1 e F1 σ H1 (s.grow g1) _ fun v2 F2 H2 i ⟨x, hx, kx⟩ g2 r2 => by
  subst e1
  cases (show v2 = .int i from r2)
  obtain ⟨v, hv, rv⟩ := atI_rep r hx
  exact ⟨a, vs, i, v, rfl, rfl, (hs.mono (g2.ff.trans g2.fh)).sq, hv, q _ F2 H2 x kx (g1.trans0 g2) (d.mono g2.ff rv)⟩
/-- an item of an owned list -/
theorem w_ixO {pin : Option V} {i : Nat} {xs : List α} {k : α → Prop} (h : Γ[i]? = some (.own (dList (d := d)) (oList (d := d)) pin xs)) (hk : R Y tb Γ dInt fun i => ∃ x, atI xs i = some x ∧ k x) : W Y (tOp (rIxL Y.K) (tVar i) tb) Γ d k := fun e F σ H s Q q => by
  obtain ⟨_, L, kw, sl⟩ := id s
  obtain ⟨o, L1, Li, L2, e1, e2, ⟨v, rfl, _, a, vs, rfl, e3, r⟩, _⟩ := sl.get h
  have ha : H a = some (.lst vs) := (kw.ow (a, .lst vs) (by rw [e2, e3]; simp)).2.1
  refine ⟨.ref a, e1, hk e F σ H s _ fun v2 F2 H2 j ⟨x, hx, kx⟩ g2 r2 => ?_⟩
  cases (show v2 = .int j from r2)
  obtain ⟨v, hv, rv⟩ := atI_rep r hx
  exact ⟨a, vs, j, v, rfl, rfl, .inl (.inl (g2.hh0 _ _ ha)), hv, q _ F2 H2 x kx g2 (d.mono g2.ff rv)⟩
/-! membership -/
class Flat (α : Type) [d : Dat α] where
  enc : α → V
  isEnc : ∀ {C : GCtx} {F : Hp} {v : V} {x : α}, d.rep C F v x → v = enc x
  flat : ∀ x, flatV (enc x) = true
  eqv : ∀ x y, eqV (enc x) (enc y) = true ↔ x = y
instance fInt : Flat Int := ⟨V.int, fun h => h, fun _ => rfl, fun x y => by simp [eqV]⟩
instance fStr : Flat Str := ⟨V.str, fun h => h, fun _ => rfl, fun x y => by simp [eqV]⟩
theorem Reps.enc [f : @Flat α d] {F : Hp} : ∀ {vs : List V} {xs : List α}, Reps d C F vs xs → vs = xs.map f.enc
  | [], [], _ => rfl
  | _ :: _, _ :: _, h => by rw [Reps.enc h.2, f.isEnc h.1]; rfl
  | [], _ :: _, h => h.elim
  | _ :: _, [], h => h.elim
theorem flat_all [f : @Flat α d] (xs : List α) : (xs.map f.enc).all flatV = true := by
  rw [List.all_map, List.all_eq_true]
  exact fun x _ => f.flat x
theorem inV_flat [f : @Flat α d] [DecidableEq α] (x : α) (xs : List α) : inV (f.enc x) (xs.map f.enc) = decide (x ∈ xs) := by
  unfold inV
  rw [List.any_map]
  by_cases h : x ∈ xs
  · rw [decide_eq_true h, List.any_eq_true]
    exact ⟨x, h, (f.eqv x x).mpr rfl⟩
  · rw [decide_eq_false h, List.any_eq_false]
    intro y hy z
    have e := (f.eqv y x).mp z
    subst e
    exact h hy
theorem w_inT [f : @Flat α d] [DecidableEq α] {k : Bool → Prop} (h : R Y ta Γ d fun x => R Y tb Γ (dTup (d := d)) fun xs => k (decide (x ∈ xs.l))) : W Y (tOp (rIn Y.K false) ta tb) Γ dBool k := fun e F σ H s Q q => h e F σ H s _ fun v1 F1 H1 x h1 g1 r1 => h1 e F1 σ H1 (s.grow g1) _ fun v2 F2 H2 xs kx g2 ⟨a, vs, e1, hs, r⟩ => by
  subst e1
  cases f.isEnc r1
  cases r.enc
  exact ⟨a, _, rfl, .inr hs.sq, f.flat x, flat_all xs.l, q _ F2 H2 _ kx (g1.trans0 g2) (by rw [inV_flat x xs.l]; rfl)⟩
/-! tuples, lists made -/
theorem Gr.lay {F H : Hp} {p : Addr} {o : HO} (g : Gr F H F H) (hp : H p = none) : Gr F H (upd F p o) (upd H p o) := Wk.lay g hp
theorem w_tup2 {k : α × β → Prop} (h : W Y ta Γ d1 fun x => W Y tb Γ d2 fun y => k (x, y)) : W Y (tTup (tCons ta (tCons tb tNil))) Γ (dPair (d1 := d1) (d2 := d2)) k := fun e F σ H s Q q => h e F σ H s _ fun v1 F1 H1 x h1 g1 r1 => h1 e F1 σ H1 (s.grow g1) _ fun v2 F2 H2 y ky g2 r2 =>
  ⟨show 2 ≤ PySem.sizeLine by decide, fun p hp => by
    have g3 := Gr.lay (o := .tup [v1, v2]) g2.base hp
    exact q _ _ _ (x, y) ky ((g1.trans0 g2).trans0 g3) ⟨p, v1, v2, rfl, .inl upd_same, d1.mono (g2.ff.trans g3.ff) r1, d2.mono g3.ff r2⟩⟩
theorem w_tup4 {δ : Type} {d4 : Dat δ} {td : TE} {k : T4 α β γ δ → Prop} (h : W Y ta Γ d1 fun x => W Y tb Γ d2 fun y => W Y tc Γ d3 fun z => W Y td Γ d4 fun u => k ⟨x, y, z, u⟩) : W Y (tTup (tCons ta (tCons tb (tCons tc (tCons td tNil))))) Γ (dT4 (d1 := d1) (d2 := d2) (d3 := d3) (d4 := d4)) k := fun e F σ H s Q q => h e F σ H s _ fun v1 F1 H1 x h1 g1 r1 => h1 e F1 σ H1 (s.grow g1) _ fun v2 F2 H2 y h2 g2 r2 =>
  h2 e F2 σ H2 ((s.grow g1).grow g2) _ fun v3 F3 H3 z h3 g3 r3 => h3 e F3 σ H3 (((s.grow g1).grow g2).grow g3) _ fun v4 F4 H4 u ku g4 r4 =>
  ⟨show 4 ≤ PySem.sizeLine by decide, fun p hp => by
    have g5 := Gr.lay (o := .tup [v1, v2, v3, v4]) g4.base hp
    exact q _ _ _ ⟨x, y, z, u⟩ ku ((((g1.trans0 g2).trans0 g3).trans0 g4).trans0 g5) ⟨p, v1, v2, v3, v4, rfl, .inl upd_same, d1.mono (((g2.ff.trans g3.ff).trans g4.ff).trans g5.ff) r1, d2.mono ((g3.ff.trans g4.ff).trans g5.ff) r2, d3.mono (g4.ff.trans g5.ff) r3, d4.mono g5.ff r4⟩⟩
/-- items that are alike, for a display -/
def WL (Y : YC) (ta : TA) (Γ : List Cell) {α : Type} (d : Dat α) (k : List α → Prop) : Prop := ∀ (e : En) (F : Hp) (σ : St) (H : Hp), State Y e F σ H Γ → ∀ Q : List V → Hp → Prop, (∀ vs F' H' xs, k xs → Gr F H F' H' → Reps d Y.g F' vs xs → Q vs H') → ta σ H Q
theorem wl_nil {k : List α → Prop} (hk : k []) : WL Y tNil Γ d k := fun e F σ H s Q q => q [] F H [] hk s.base trivial
theorem wl_cons {tr : TA} {k : List α → Prop} (h : W Y te Γ d fun x => WL Y tr Γ d fun xs => k (x :: xs)) : WL Y (tCons te tr) Γ d k := fun e F σ H s Q q => h e F σ H s _ fun v F1 H1 x h1 g1 r1 => h1 e F1 σ H1 (s.grow g1) _ fun vs F2 H2 xs kc g2 r2 =>
  q (v :: vs) F2 H2 (x :: xs) kc (g1.trans0 g2) ⟨d.mono g2.ff r1, r2⟩
theorem o_new {F H : Hp} {L : LO} (g : Wk ⟨F, H, []⟩ F [] H) {p : Addr} {vs : List V} {xs : List α} (hp : H p = none) (r : Reps d C F vs xs) : Wk ⟨F, H, []⟩ F [(p, .lst vs)] (upd H p (.lst vs)) ∧ (oList (d := d)).orep C F (.ref p) xs [(p, .lst vs)] :=
  ⟨g.own hp (fun _ z => by cases z), p, vs, rfl, rfl, r⟩
theorem o_lst {tl : TA} {k : List α → Prop} (h : WL Y tl Γ d fun xs => xs.length ≤ PySem.sizeLine ∧ k xs) : O Y (tLst tl) Γ (oList (d := d)) k := fun e F σ H s Q q => h e F σ H s _ fun vs F' H' xs ⟨hl, kx⟩ g r =>
  ⟨by rw [r.len]; exact hl, fun p hp => by
    obtain ⟨h1, h2⟩ := o_new (L := []) g.base hp r
    have h3 := g.trans h1
    exact q _ F' _ [(p, .lst vs)] xs kx (by simpa using h3) h2⟩
theorem o_nil {k : List α → Prop} (hk : k []) : O Y (tLst tNil) Γ (oList (d := d)) k := o_lst (wl_nil ⟨Nat.zero_le _, hk⟩)
/-- list(xs) -/
theorem o_listOf {k : List α → Prop} (h : W Y ta Γ (dList (d := d)) k) : O Y (tCB (fun xs H Q => ∃ p ys, xs = [.ref p] ∧ (SqL Y.K H p ys ∨ SqT Y.K H p ys) ∧ ∀ l, H l = none → Q (.ref l) (upd H l (.lst ys))) (tCons ta tNil)) Γ (oList (d := d)) k := fun e F σ H s Q q => h e F σ H s _ fun v F' H' xs kx g ⟨a, vs, e1, hs, r⟩ => by
  subst e1
  refine ⟨a, vs, rfl, .inl (g.fh.seq hs), fun l hl => ?_⟩
  obtain ⟨h1, h2⟩ := o_new (L := []) g.base hl r
  exact q _ F' _ _ xs kx (by simpa using g.trans h1) h2
theorem o_listOfT {k : List α → Prop} (h : W Y ta Γ (dTup (d := d)) fun xs => k xs.l) : O Y (tCB (fun xs H Q => ∃ p ys, xs = [.ref p] ∧ (SqL Y.K H p ys ∨ SqT Y.K H p ys) ∧ ∀ l, H l = none → Q (.ref l) (upd H l (.lst ys))) (tCons ta tNil)) Γ (oList (d := d)) k := fun e F σ H s Q q => h e F σ H s _ fun v F' H' xs kx g ⟨a, vs, e1, hs, r⟩ => by
  subst e1
  refine ⟨a, vs, rfl, .inr (hs.mono g.fh).sq, fun l hl => ?_⟩
  obtain ⟨h1, h2⟩ := o_new (L := []) g.base hl r
  exact q _ F' _ _ xs.l kx (by simpa using g.trans h1) h2
/-- list(xs), xs owned, its items standing still -/
theorem o_listOfO [i : @Imm α d] {k : List α → Prop} (h : R Y ta Γ (dList (d := d)) k) : O Y (tCB (fun xs H Q => ∃ p ys, xs = [.ref p] ∧ (SqL Y.K H p ys ∨ SqT Y.K H p ys) ∧ ∀ l, H l = none → Q (.ref l) (upd H l (.lst ys))) (tCons ta tNil)) Γ (oList (d := d)) k := fun e F σ H s Q q => h e F σ H s _ fun v F' H' xs kx g ⟨a, vs, e1, hs, r⟩ => by
  subst e1
  refine ⟨a, vs, rfl, .inl hs, fun l hl => ?_⟩
  obtain ⟨h1, h2⟩ := o_new (L := []) g.base hl (r.imm g.tp)
  exact q _ F' _ _ xs kx (by simpa using g.trans h1) h2
/-- tuple(xs) -/
theorem w_tupOf {k : Tup α → Prop} (h : W Y ta Γ (dList (d := d)) fun xs => k ⟨xs⟩) : W Y (tCB (fun xs H Q => ∃ p ys, xs = [.ref p] ∧ ((SqL Y.K H p ys ∧ ∀ l, H l = none → Q (.ref l) (upd H l (.tup ys))) ∨ (SqT Y.K H p ys ∧ Q (.ref p) H))) (tCons ta tNil)) Γ (dTup (d := d)) k := fun e F σ H s Q q => h e F σ H s _ fun v F' H' xs kx g ⟨a, vs, e1, hs, r⟩ => by
  subst e1
  refine ⟨a, vs, rfl, .inl ⟨g.fh.seq hs, fun l hl => ?_⟩⟩
  have g4 := Gr.lay (o := .tup vs) g.base hl
  exact q _ _ _ ⟨xs⟩ kx (g.trans0 g4) ⟨l, vs, rfl, .inl upd_same, r.mono g4.ff⟩
end
end G

/-! G3: statements, loops, calls, comprehensions. -/
namespace G
open PySem L2

/-! ### the state, more -/
section
variable {C : GCtx} {Y : YC} {e : En} {F F' : Hp} {σ : St} {H H' : Hp} {Γ : List Cell}
theorem State.mut {α : Type} {d : Dat α} {od : OD α} {x : α} {i : Nat} {pin : Option V} (s : State Y e F σ H Γ) (h : Γ[i]? = some (.own d od pin x)) : ∃ v Li rest, σ[i]? = some (some v) ∧ od.orep Y.g F v x Li ∧ Wk e F (Li ++ rest) H ∧
    ∀ F' H' Li' x', Same F F' → Wk e F' (Li' ++ rest) H' → od.orep Y.g F' v x' Li' → State Y e F' σ H' (Γ.set i (.own d od pin x')) := by
  obtain ⟨hx, L, k, sl⟩ := s
  obtain ⟨o, L1, Li, L2, e1, e2, ⟨v, rfl, hp, r⟩, f⟩ := sl.get h
  subst e2
  refine ⟨v, Li, L1 ++ L2, e1, r, k.front, fun F' H' Li' x' s' k' r' => ⟨hx, L1 ++ Li' ++ L2, k'.back, ?_⟩⟩
  have q := f F' (some v) (.own d od pin x') Li' s' ⟨v, rfl, hp, r'⟩
  have z : σ.set i (some v) = σ := by
    apply List.ext_getElem?
    intro j
    by_cases hj : i = j
    · subst hj
      obtain ⟨hlt, hv⟩ := List.getElem?_eq_some_iff.mp e1
      rw [List.getElem?_set_self hlt, e1]
    · rw [List.getElem?_set_ne hj]
  rw [z] at q
  exact q
/-- what is owned is frozen -/
theorem State.frz {α : Type} {d : Dat α} {od : OD α} {x : α} {i : Nat} (s : State Y e F σ H Γ) (hM : e.M = []) (h : Γ[i]? = some (.own d od none x)) : ∃ F', Same F F' ∧ State Y e F' σ H (Γ.set i (.val d x)) := by
  obtain ⟨hx, L, k, sl⟩ := s
  obtain ⟨o, L1, Li, L2, e1, e2, ⟨v, rfl, hp, r⟩, f⟩ := sl.get h
  subst e2
  have kf := k.front
  have ff : ∀ p ∈ Li, F p.1 = none := fun p hp => (kf.ow p (List.mem_append_left _ hp)).1
  have nd : (Li.map Prod.fst).Nodup := by
    have := kf.nd
    rw [List.map_append] at this
    exact (List.nodup_append.mp this).1
  have k2 := kf.freeze fun p _ z => by rw [hM] at z; cases z
  have sm := same_plus ff nd
  refine ⟨plus F Li, sm, hx, L1 ++ L2, k2, ?_⟩
  have q := f (plus F Li) (some v) (.val d x) [] sm ⟨rfl, v, rfl, od.view r sm (plus_get ff nd)⟩
  have z : σ.set i (some v) = σ := by
    apply List.ext_getElem?
    intro j
    by_cases hj : i = j
    · subst hj
      obtain ⟨hlt, hv⟩ := List.getElem?_eq_some_iff.mp e1
      rw [List.getElem?_set_self hlt, e1]
    · rw [List.getElem?_set_ne hj]
  rw [z, List.append_nil] at q
  exact q
end

/-! ### statements -/
structure Ks where
  nx : List Cell → Prop
  rt : Cell → List Cell → Prop
  bk : List Cell → Prop
  ct : List Cell → Prop
structure Cont (Y : YC) (e : En) (k : Ks) (D : Ends) : Prop where
  nx : ∀ F σ H Γ, k.nx Γ → State Y e F σ H Γ → D.nx σ H
  rt : ∀ F σ H Γ v c L L', k.rt c Γ → Wk e F (L ++ L') H → CellOk Y.g F (some v) c L → Slots Y.g F σ Γ L' → D.rt v H
  bk : ∀ F σ H Γ, k.bk Γ → State Y e F σ H Γ → D.bk σ H
  ct : ∀ F σ H Γ, k.ct Γ → State Y e F σ H Γ → D.ct σ H
def Z (Y : YC) (ts : TS) (Γ : List Cell) (k : Ks) : Prop := ∀ (e : En) (F : Hp) (σ : St) (H : Hp) (D : Ends), e.M = [] → State Y e F σ H Γ → Cont Y e k D → ts D σ H
/-- a target takes x -/
def A (Y : YC) (g : TG) (Γ : List Cell) {α : Type} (d : Dat α) (x : α) (k : List Cell → Prop) : Prop := ∀ (e : En) (F : Hp) (σ : St) (H : Hp) (v : V), State Y e F σ H Γ → d.rep Y.g F v x → ∀ Q : St → Hp → Prop, (∀ σ' Γ', k Γ' → State Y e F σ' H Γ' → Q σ' H) → g v σ H Q

section
variable {C : GCtx} {Y : YC} {Γ : List Cell} {te ta tb tc : TE} {t u : TT} {α β γ δ : Type} {d1 : Dat α} {d : Dat α} {d2 : Dat β} {d3 : Dat γ} {d4 : Dat δ} {k : Ks} {t1 t2 ts : TS} {g g1 g2 g3 g4 : TG}

theorem z_seq (h : Z Y t1 Γ { k with nx := fun Γ' => Z Y t2 Γ' k }) : Z Y (tSeq t1 t2) Γ k := fun e F σ H D hM s c =>
  h e F σ H { D with nx := t2 D } hM s ⟨fun F σ H Γ q s' => q e F σ H D hM s' c, c.rt, c.bk, c.ct⟩
theorem z_next (h : k.nx Γ) : Z Y tNext Γ k := fun e F σ H D hM s c => c.nx F σ H Γ h s
theorem z_break (h : k.bk Γ) : Z Y tBreak Γ k := fun e F σ H D hM s c => c.bk F σ H Γ h s
theorem z_mono {k' : Ks} (h : Z Y ts Γ k') (n : ∀ Γ, k'.nx Γ → k.nx Γ) (r : ∀ c Γ, k'.rt c Γ → k.rt c Γ) (b : ∀ Γ, k'.bk Γ → k.bk Γ) (c : ∀ Γ, k'.ct Γ → k.ct Γ) : Z Y ts Γ k := fun e F σ H D hM s cc =>
  h e F σ H D hM s ⟨fun F σ H Γ q => cc.nx F σ H Γ (n Γ q), fun F σ H Γ v x L L' q => cc.rt F σ H Γ v x L L' (r x Γ q), fun F σ H Γ q => cc.bk F σ H Γ (b Γ q), fun F σ H Γ q => cc.ct F σ H Γ (c Γ q)⟩
/-- what is owned may be frozen anywhere -/
theorem z_frz {od : @OD α d} {x : α} (i : Nat) (hi : Γ[i]? = some (.own d od none x)) (h : Z Y ts (Γ.set i (.val d x)) k) : Z Y ts Γ k := fun e F σ H D hM s c => by
  obtain ⟨F', sm, s'⟩ := s.frz hM hi
  exact h e F' σ H D hM s' c
theorem z_forget {c0 : Cell} (i : Nat) (hi : Γ[i]? = some c0) (h : Z Y ts (Γ.set i .no) k) : Z Y ts Γ k := fun e F σ H D hM s c => h e F σ H D hM (s.hide hi) c

/-! targets -/
theorem a_name {x : α} {i : Nat} {c0 : Cell} {kn : List Cell → Prop} (hi : Γ[i]? = some c0) (h : kn (Γ.set i (.val d x))) : A Y (gName i) Γ d x kn := fun e F σ H v s r Q q =>
  q (σ.set i (some v)) _ h (s.set (c' := .val d x) (L' := []) hi s.base ⟨rfl, v, rfl, r⟩)
theorem a_pair {x : α × β} {n : Nat} {kn : List Cell → Prop} (hn : n = 2) (h : A Y g1 Γ d1 x.1 fun Γ1 => A Y g2 Γ1 d2 x.2 kn) : A Y (gTup Y.K n (gCons g1 (gCons g2 gNil))) Γ (dPair (d1 := d1) (d2 := d2)) x kn := fun e F σ H v s ⟨a, v1, v2, e1, ht, r1, r2⟩ Q q => by
  subst e1 hn
  refine ⟨a, [v1, v2], rfl, (ht.mono s.fh).sq, rfl, v1, [v2], rfl, h e F σ H v1 s r1 _ fun σ1 Γ1 h1 st1 => ⟨v2, [], rfl, h1 e F σ1 H v2 st1 r2 _ fun σ2 Γ2 h2 st2 => ⟨rfl, q σ2 Γ2 h2 st2⟩⟩⟩
theorem a_T4 {x : T4 α β γ δ} {n : Nat} {kn : List Cell → Prop} (hn : n = 4) (h : A Y g1 Γ d1 x.a fun Γ1 => A Y g2 Γ1 d2 x.b fun Γ2 => A Y g3 Γ2 d3 x.c fun Γ3 => A Y g4 Γ3 d4 x.d kn) : A Y (gTup Y.K n (gCons g1 (gCons g2 (gCons g3 (gCons g4 gNil))))) Γ (dT4 (d1 := d1) (d2 := d2) (d3 := d3) (d4 := d4)) x kn := fun e F σ H v s ⟨a, v1, v2, v3, v4, e1, ht, r1, r2, r3, r4⟩ Q q => by
  subst e1 hn
  refine ⟨a, [v1, v2, v3, v4], rfl, (ht.mono s.fh).sq, rfl, v1, [v2, v3, v4], rfl, h e F σ H v1 s r1 _ fun σ1 Γ1 h1 st1 => ⟨v2, [v3, v4], rfl, h1 e F σ1 H v2 st1 r2 _ fun σ2 Γ2 h2 st2 => ⟨v3, [v4], rfl, h2 e F σ2 H v3 st2 r3 _ fun σ3 Γ3 h3 st3 =>
    ⟨v4, [], rfl, h3 e F σ3 H v4 st3 r4 _ fun σ4 Γ4 h4 st4 => ⟨rfl, q σ4 Γ4 h4 st4⟩⟩⟩⟩⟩

/-! assignments -/
theorem z_set {i : Nat} {c0 : Cell} (hi : Γ[i]? = some c0) (h : W Y te Γ d fun x => k.nx (Γ.set i (.val d x))) : Z Y (tAsg te (gName i)) Γ k := fun e F σ H D hM s c => h e F σ H s _ fun v F' H' x kx g r =>
  c.nx F' _ H' _ kx (s.set (c' := .val d x) (L' := []) hi g ⟨rfl, v, rfl, r⟩)
theorem z_setG (h : W Y te Γ d fun x => A Y g Γ d x k.nx) : Z Y (tAsg te g) Γ k := fun e F σ H D hM s c => h e F σ H s _ fun v F' H' x kx gr r =>
  kx e F' σ H' v (s.grow gr) r _ fun σ2 Γ2 k2 s2 => c.nx F' σ2 H' Γ2 k2 s2
theorem z_setO {od : @OD α d} {i : Nat} {c0 : Cell} (hi : Γ[i]? = some c0) (h : O Y te Γ od fun x => k.nx (Γ.set i (.own d od none x))) : Z Y (tAsg te (gName i)) Γ k := fun e F σ H D hM s c => h e F σ H s _ fun v F' H' L' x kx g r =>
  c.nx F' _ H' _ kx (s.set (c' := .own d od none x) hi g ⟨v, rfl, fun _ z => (nomatch z), r⟩)
theorem z_drop {kt : α → Prop} (h : R Y te Γ d fun _ => k.nx Γ) : Z Y (tDrop te) Γ k := fun e F σ H D hM s c => h e F σ H s _ fun v F' H' x kx g r => c.nx F' σ H' Γ kx (s.grow g)
theorem z_if (h : T Y t Γ fun b => (b = true → Z Y t1 Γ k) ∧ (b = false → Z Y t2 Γ k)) : Z Y (tIfS t t1 t2) Γ k := fun e F σ H D hM s c => h e F σ H s _ fun b F' H' kb g => by
  cases b with
  | true => exact kb.1 rfl e F' σ H' D hM (s.grow g) c
  | false => exact kb.2 rfl e F' σ H' D hM (s.grow g) c
theorem z_ret (h : W Y te Γ d fun x => k.rt (.val d x) Γ) : Z Y (tRet te) Γ k := fun e F σ H D hM s c => h e F σ H s _ fun v F' H' x kx g r => by
  obtain ⟨_, L, kw, sl⟩ := s
  exact c.rt F' σ H' Γ v (.val d x) [] L kx (kw.trans0 g) ⟨rfl, v, rfl, r⟩ (sl.mono g.ff)
theorem z_retO {od : @OD α d} (h : O Y te Γ od fun x => k.rt (.own d od none x) Γ) : Z Y (tRet te) Γ k := fun e F σ H D hM s c => h e F σ H s _ fun v F' H' L' x kx g r => by
  obtain ⟨_, L, kw, sl⟩ := s
  exact c.rt F' σ H' Γ v (.own d od none x) L' L kx (kw.trans g) ⟨v, rfl, fun _ z => (nomatch z), r⟩ (sl.mono g.ff)
theorem z_retV {od : @OD α d} {i : Nat} {x : α} (hi : Γ[i]? = some (.own d od none x)) (h : k.rt (.own d od none x) (Γ.set i .no)) : Z Y (tRet (tVar i)) Γ k := fun e F σ H D hM s c => by
  obtain ⟨hx, L, k0, sl⟩ := s
  obtain ⟨o, L1, Li, L2, e1, e2, ⟨v, rfl, _, r⟩, f⟩ := sl.get hi
  subst e2
  refine ⟨v, e1, ?_⟩
  have sl2 := f F (some v) .no [] (Same.refl F) rfl
  rw [List.append_nil] at sl2
  exact c.rt F _ H _ v (.own d od none x) Li (L1 ++ L2) h k0.front ⟨v, rfl, fun _ z => (nomatch z), r⟩ sl2
/-! stores to what is owned -/
theorem z_append {pin : Option V} {i : Nat} {xs : List α} (hi : Γ[i]? = some (.own (dList (d := d)) (oList (d := d)) pin xs)) (h : W Y te Γ d fun y => xs.length < PySem.sizeLine ∧ k.nx (Γ.set i (.own (dList (d := d)) (oList (d := d)) pin (xs ++ [y])))) :
    Z Y (tDrop (tBM Y.K "list" rAppend (tVar i) (tCons te tNil))) Γ k := fun e F σ H D hM s c => by
  obtain ⟨v0, _, _, e1, ⟨a0, vs0, rfl, rfl, _⟩, kw0, _⟩ := s.mut hi
  have ha0 : H a0 = some (.lst vs0) := (kw0.ow (a0, .lst vs0) (by simp)).2.1
  refine ⟨.ref a0, e1, .inl ⟨rfl, vs0, .inl (.inl ha0)⟩, h e F σ H s _ fun w F' H' y ⟨hl, ky⟩ g rw' => ?_⟩
  obtain ⟨v, Li, rest, e2, ⟨a, vs, rfl, rfl, r⟩, kw, f⟩ := (s.grow g).mut hi
  rw [e1] at e2
  cases (Option.some.inj e2)
  have ha : H' a0 = some (.lst vs) := (kw.ow (a0, .lst vs) (by simp)).2.1
  refine ⟨a0, vs, w, rfl, rfl, ha, by rw [r.len]; exact hl, ?_⟩
  exact c.nx F' σ _ _ ky (f F' _ [(a0, .lst (vs ++ [w]))] (xs ++ [y]) (Same.refl F') (kw.put (fun _ z => by cases z)) ⟨a0, _, rfl, rfl, r.append (Reps.one rw')⟩)
/-- y = xs.pop() -/
theorem z_pop {pin : Option V} {i j : Nat} {xs : List α} {y : α} {c0 : Cell} (hi : Γ[i]? = some (.own (dList (d := d)) (oList (d := d)) pin (xs ++ [y]))) (hj : (Γ.set i (.own (dList (d := d)) (oList (d := d)) pin xs))[j]? = some c0)
    (h : k.nx ((Γ.set i (.own (dList (d := d)) (oList (d := d)) pin xs)).set j (.val d y))) : Z Y (tAsg (tBM0 Y.K "list" rPop (tVar i)) (gName j)) Γ k := fun e F σ H D hM s c => by
  obtain ⟨v, _, rest, e1, ⟨a, vs, rfl, rfl, r⟩, kw, f⟩ := s.mut hi
  have ha : H a = some (.lst vs) := (kw.ow (a, .lst vs) (by simp)).2.1
  have hl : vs.length = xs.length + 1 := by rw [r.len]; simp
  have hx : (xs ++ [y])[vs.length - 1]? = some y := by rw [hl]; simp
  obtain ⟨w, hw, rw'⟩ := r.get hx
  refine ⟨.ref a, e1, .inl ⟨rfl, vs, .inl (.inl ha)⟩, a, vs, w, rfl, rfl, ha, hw, ?_⟩
  have s2 := f F _ [(a, .lst vs.dropLast)] xs (Same.refl F) (kw.put (fun _ z => by cases z)) ⟨a, _, rfl, rfl, by
    have q := r.take xs.length
    rw [List.take_left] at q
    rw [List.dropLast_eq_take, hl]
    exact q⟩
  exact c.nx F _ _ _ h (s2.set (c' := .val d y) (L' := []) hj s2.base ⟨rfl, w, rfl, rw'⟩)
/-- xs[i] = e -/
theorem z_setIx {pin : Option V} {i : Nat} {xs : List α} (hi : Γ[i]? = some (.own (dList (d := d)) (oList (d := d)) pin xs)) (h : W Y te Γ d fun y => R Y tb Γ dInt fun n => ∃ j, ixN xs.length n = some j ∧ k.nx (Γ.set i (.own (dList (d := d)) (oList (d := d)) pin (xs.set j y)))) :
    Z Y (tAsg te (gSub (tVar i) tb rSetL)) Γ k := fun e F σ H D hM s c => h e F σ H s _ fun w F1 H1 y hy g1 rw1 => by
  obtain ⟨v0, _, _, e1, ⟨a0, vs0, rfl, rfl, _⟩, kw0, _⟩ := (s.grow g1).mut hi
  refine ⟨.ref a0, e1, hy e F1 σ H1 (s.grow g1) _ fun v2 F2 H2 n ⟨j, hj, kj⟩ g2 r2 => ?_⟩
  cases (show v2 = .int n from r2)
  obtain ⟨v, Li, rest, e2, ⟨a, vs, rfl, rfl, r⟩, kw, f⟩ := ((s.grow g1).grow g2).mut hi
  rw [e1] at e2
  cases (Option.some.inj e2)
  have ha : H2 a0 = some (.lst vs) := (kw.ow (a0, .lst vs) (by simp)).2.1
  refine ⟨a0, vs, n, j, rfl, rfl, ha, by rw [r.len]; exact hj, ?_⟩
  exact c.nx F2 σ _ _ kj (f F2 _ [(a0, .lst (vs.set j w))] (xs.set j y) (Same.refl F2) (kw.put (fun _ z => by cases z)) ⟨a0, _, rfl, rfl, r.set j (d.mono g2.ff rw1)⟩)

/-! loops -/
theorem Wk.out {e : En} {F1 F : Hp} {L1 L : LO} {H1 H : Hp} (a : Wk e F1 L1 H1) (b : Wk ⟨F1, e.H0, e.M⟩ F L H) : Wk e F L H :=
  ⟨a.ff.trans b.ff, b.hh, b.th, b.fh, fun x h h' => b.nw x h (a.nw x h h'), b.tp, b.ow, b.nd⟩
theorem Wk.into {e : En} {F : Hp} {L : LO} {H : Hp} (a : Wk e F L H) : Wk ⟨F, e.H0, e.M⟩ F L H :=
  ⟨Same.refl _, a.hh, a.th, a.fh, fun _ _ h => h, a.tp, a.ow, a.nd⟩
theorem XOk.into {e : En} {F1 : Hp} {L1 : LO} {H1 : Hp} (h : XOk Y e) (a : Wk e F1 L1 H1) : XOk Y ⟨F1, e.H0, e.M⟩ := fun x d F σ H Γ k ⟨L, kw, sl⟩ hd => h x d F σ H Γ k ⟨L, a.out kw, sl⟩ hd
theorem State.into {e : En} {F : Hp} {σ : St} {H : Hp} (s : State Y e F σ H Γ) : State Y ⟨F, e.H0, e.M⟩ F σ H Γ := let ⟨hx, L, k, sl⟩ := s; ⟨hx.into k, L, k.into, sl⟩
theorem State.out {e : En} {F1 F : Hp} {L1 : LO} {H1 : Hp} {σ : St} {H : Hp} (hx : XOk Y e) (a : Wk e F1 L1 H1) (s : State Y ⟨F1, e.H0, e.M⟩ F σ H Γ) : State Y e F σ H Γ := let ⟨_, L, k, sl⟩ := s; ⟨hx, L, a.out k, sl⟩
theorem State.ff {e : En} {F : Hp} {σ : St} {H : Hp} (s : State Y e F σ H Γ) : Same e.F0 F := let ⟨_, _, k, _⟩ := s; k.ff
theorem Cont.into {e : En} {F1 : Hp} {L1 : LO} {H1 : Hp} {D : Ends} (hx : XOk Y e) (a : Wk e F1 L1 H1) (c : Cont Y e k D) : Cont Y ⟨F1, e.H0, e.M⟩ k D :=
  ⟨fun F σ H Γ q s => c.nx F σ H Γ q (s.out hx a), fun F σ H Γ v x L L' q kw => c.rt F σ H Γ v x L L' q (a.out kw), fun F σ H Γ q s => c.bk F σ H Γ q (s.out hx a), fun F σ H Γ q s => c.ct F σ H Γ q (s.out hx a)⟩
/-- what a loop asks of its body -/
def Body (Y : YC) (g : TG) (ts : TS) {α : Type} (d : Dat α) (k : Ks) (get : Nat → Option α) (n : Nat) (Γ : List Cell) : Prop :=
  ∃ I : Nat → List Cell → Prop, I 0 Γ ∧ (∀ i x Γ', get i = some x → I i Γ' → A Y g Γ' d x fun Γ2 => Z Y ts Γ2 { nx := I (i + 1), ct := I (i + 1), bk := k.nx, rt := k.rt }) ∧ ∀ Γ', I n Γ' → k.nx Γ'
theorem z_for {tl : TE} (h : W Y tl Γ (dList (d := d)) fun xs => Body Y g ts d k (fun i => xs[i]?) xs.length Γ) : Z Y (tFor (iList Y.K tl) g ts) Γ k := fun e F σ H D hM s c => h e F σ H s _ fun v F1 H1 xs ⟨I, h0, hs, hd⟩ g1 ⟨a, vs, e1, hq, r⟩ => by
  subst e1
  have s1 := s.grow g1
  obtain ⟨hx1, L1, kw1, _⟩ := id s1
  have c1 := c.into hx1 kw1
  refine ⟨a, rfl, ⟨vs, g1.fh.seq hq⟩, for_list (K := Y.K) (a := a) (xs := vs) (fun i σ H => ∃ F' Γ', State Y ⟨F1, e.H0, e.M⟩ F' σ H Γ' ∧ I i Γ') ⟨F1, Γ, s1.into, h0⟩ (fun i σ H _ ⟨F', Γ', st, _⟩ => (st.ff.trans st.fh).seq hq) (fun i w σ H hw ⟨F', Γ', st, hi⟩ => ?_) fun σ H ⟨F', Γ', st, hi⟩ => ?_⟩
  · obtain ⟨x, hx, rx⟩ := r.getV hw
    refine hs i x Γ' hx hi _ F' σ H w st (d.mono st.ff rx) _ fun σ2 Γ2 h2 st2 => ?_
    exact h2 ⟨F1, e.H0, e.M⟩ F' σ2 H _ hM st2 ⟨fun F3 σ3 H3 Γ3 k3 st3 => ⟨F3, Γ3, st3, k3⟩, c1.rt, c1.nx, fun F3 σ3 H3 Γ3 k3 st3 => ⟨F3, Γ3, st3, k3⟩⟩
  · rw [r.len] at hi
    exact c1.nx F' σ H Γ' (hd Γ' hi) st
theorem z_forT {tl : TE} (h : W Y tl Γ (dTup (d := d)) fun xs => Body Y g ts d k (fun i => xs.l[i]?) xs.l.length Γ) : Z Y (tFor (iTup Y.K tl) g ts) Γ k := fun e F σ H D hM s c => h e F σ H s _ fun v F1 H1 xs ⟨I, h0, hs, hd⟩ g1 ⟨a, vs, e1, hq, r⟩ => by
  subst e1
  have s1 := s.grow g1
  obtain ⟨hx1, L1, kw1, _⟩ := id s1
  have c1 := c.into hx1 kw1
  refine ⟨a, rfl, ⟨vs, (hq.mono g1.fh).sq⟩, for_tup (K := Y.K) (a := a) (xs := vs) (fun i σ H => ∃ F' Γ', State Y ⟨F1, e.H0, e.M⟩ F' σ H Γ' ∧ I i Γ') ⟨F1, Γ, s1.into, h0⟩ (fun i σ H _ ⟨F', Γ', st, _⟩ => (hq.mono (st.ff.trans st.fh)).sq) (fun i w σ H hw ⟨F', Γ', st, hi⟩ => ?_) fun σ H ⟨F', Γ', st, hi⟩ => ?_⟩
  · obtain ⟨x, hx, rx⟩ := r.getV hw
    refine hs i x Γ' hx hi _ F' σ H w st (d.mono st.ff rx) _ fun σ2 Γ2 h2 st2 => ?_
    exact h2 ⟨F1, e.H0, e.M⟩ F' σ2 H _ hM st2 ⟨fun F3 σ3 H3 Γ3 k3 st3 => ⟨F3, Γ3, st3, k3⟩, c1.rt, c1.nx, fun F3 σ3 H3 Γ3 k3 st3 => ⟨F3, Γ3, st3, k3⟩⟩
  · rw [r.len] at hi
    exact c1.nx F' σ H Γ' (hd Γ' hi) st
/-- lo, lo + 1, .. (n of them) -/
def rng (lo : Int) (n : Nat) (i : Nat) : Option Int := if i < n then some (lo + i) else none
theorem for_rng {lo : Int} {n : Nat} {e : En} {F : Hp} {σ : St} {H : Hp} {D : Ends} (hM : e.M = []) (s : State Y e F σ H Γ) (c : Cont Y e k D) (h : Body Y g ts dInt k (rng lo n) n Γ) : ∃ W : Nat → Nat → St → Hp → Prop, (∃ m, W 0 m σ H) ∧ ∀ i m σ H, W i m σ H →
      ((Itr lo n).stop i H ∧ D.nx σ H) ∨ ((Itr lo n).go i H ∧ ∃ N : St → Hp → Prop, (∀ σ' H', N σ' H' → ∃ m', m' < m ∧ W (i + 1) m' σ' H') ∧ ∀ x H', (Itr lo n).yld i H x H' → g x σ H' fun σ2 H2 => ts { D with nx := N, ct := N, bk := D.nx } σ2 H2) := by
  obtain ⟨I, h0, hs, hd⟩ := h
  refine for_range (lo := lo) (n := n) (fun i σ H => ∃ F' Γ', State Y e F' σ H Γ' ∧ I i Γ') ⟨F, Γ, s, h0⟩ (fun i σ H hw ⟨F', Γ', st, hi⟩ => ?_) fun σ H ⟨F', Γ', st, hi⟩ => c.nx F' σ H Γ' (hd Γ' hi) st
  refine hs i (lo + i) Γ' (by unfold rng; rw [if_pos hw]) hi _ F' σ H _ st rfl _ fun σ2 Γ2 h2 st2 => ?_
  exact h2 _ F' σ2 H _ hM st2 ⟨fun F3 σ3 H3 Γ3 k3 st3 => ⟨F3, Γ3, st3, k3⟩, c.rt, c.nx, fun F3 σ3 H3 Γ3 k3 st3 => ⟨F3, Γ3, st3, k3⟩⟩
theorem z_range (h : R Y ta Γ dInt fun n => -(2 ^ 62) ≤ n ∧ n < 2 ^ 62 ∧ Body Y g ts dInt k (rng 0 n.toNat) n.toNat Γ) : Z Y (tFor (iRng1 (tCons ta tNil)) g ts) Γ k := fun e F σ H D hM s c => h e F σ H s _ fun v F1 H1 n ⟨l1, l2, hb⟩ g1 r1 => by
  cases (show v = .int n from r1)
  exact ⟨n, rfl, l1, l2, for_rng hM (s.grow g1) c hb⟩
theorem z_while (I : Nat → List Cell → Prop) (h0 : ∃ m, I m Γ) (hs : ∀ m Γ', I m Γ' → T Y t Γ' fun b => (b = true → Z Y ts Γ' { nx := fun Γ2 => ∃ m', m' < m ∧ I m' Γ2, ct := fun Γ2 => ∃ m', m' < m ∧ I m' Γ2, bk := k.nx, rt := k.rt }) ∧ (b = false → k.nx Γ')) : Z Y (tWhile t ts) Γ k := fun e F σ H D hM s c => by
  obtain ⟨m0, h0⟩ := h0
  refine ⟨fun m σ H => ∃ F' Γ', State Y e F' σ H Γ' ∧ I m Γ', ⟨m0, F, Γ, s, h0⟩, fun m σ H ⟨F', Γ', st, hi⟩ => ?_⟩
  refine hs m Γ' hi e F' σ H st _ fun b F2 H2 kb g2 => ?_
  cases b with
  | false => exact c.nx F2 σ H2 Γ' (kb.2 rfl) (st.grow g2)
  | true =>
    refine ⟨fun σ3 H3 => ∃ F3 Γ3, State Y e F3 σ3 H3 Γ3 ∧ ∃ m', m' < m ∧ I m' Γ3, fun σ3 H3 ⟨F3, Γ3, st3, m', hm, q⟩ => ⟨m', hm, F3, Γ3, st3, q⟩, ?_⟩
    exact kb.1 rfl e F2 σ H2 _ hM (st.grow g2) ⟨fun F3 σ3 H3 Γ3 k3 st3 => ⟨F3, Γ3, st3, k3⟩, c.rt, c.nx, fun F3 σ3 H3 Γ3 k3 st3 => ⟨F3, Γ3, st3, k3⟩⟩
/-! truth of a list -/
theorem t_truL {kb : Bool → Prop} (h : R Y ta Γ (dList (d := d)) fun xs => kb (!xs.isEmpty)) : T Y (fun σ H Q => ta σ H fun x H' => ∃ k, TruV Y.K x H' k ∧ Q k H') Γ kb := fun e F σ H s Q q => h e F σ H s _ fun v F' H' xs kx g ⟨a, vs, e1, hs, r⟩ => by
  subst e1
  refine ⟨_, .inl ⟨vs, hs, rfl⟩, q _ F' H' ?_ g⟩
  have e : vs.isEmpty = xs.isEmpty := by
    have := r.len
    cases vs <;> cases xs <;> simp_all
  rw [e]
  exact kx

/-! ### calls -/
/-- a def over data that it leaves as they are -/
def Fn (C : GCtx) (Γ : List Cell) (post : Cell → Prop) (vs : List V) (H : Hp) (Q : VK) : Prop :=
  ∃ F, Gr F H F H ∧ Slots C F (vs.map some) Γ [] ∧ ∀ v F' H' c L, post c → Wk ⟨F, H, []⟩ F' L H' → CellOk C F' (some v) c L → Q v H'
theorem Fn.len {post : Cell → Prop} {vs : List V} {H : Hp} {Q : VK} (h : Fn C Γ post vs H Q) : vs.length = Γ.length := by
  obtain ⟨F, _, s, _⟩ := h
  simpa using s.len
theorem Fn.mono {post post' : Cell → Prop} {vs : List V} {H : Hp} {Q : VK} (h : Fn C Γ post vs H Q) (m : ∀ c, post' c → post c) : Fn C Γ post' vs H Q := by
  obtain ⟨F, g, s, q⟩ := h
  exact ⟨F, g, s, fun v F' H' c L p => q v F' H' c L (m c p)⟩
/-- sp serves the cells, and its answers are as post says -/
def SpW (C : GCtx) (sp : Sp) (cs : List Cell) (post : Cell → Prop) : Prop := ∀ vs H Q E, Fn C cs post vs H Q → sp vs H Q E
/-- what is new in H' joins F -/
def fresh (F H F' : Hp) : Hp := fun a => if (H a).isSome = true then F a else F' a
theorem fresh_gr {F F1 H F' H' : Hp} {L : LO} (b : Gr F H F H) (g : Wk ⟨F1, H, []⟩ F' L H') : Wk ⟨F, H, []⟩ (fresh F H F') L H' where
  ff := fun a o h => by
    have h2 : (H a).isSome = true := by rw [b.fh a o h]; rfl
    unfold fresh; rw [if_pos h2]; exact h
  hh := g.hh
  th := g.th
  fh := fun a o h => by
    unfold fresh at h
    split at h
    · exact g.hh a o (fun z => nomatch z) (b.fh a o h)
    · exact g.fh a o h
  nw := fun a h h' => by
    unfold fresh
    have h2 : (H a).isSome = true := by cases q : H a with | none => exact absurd q h | some o => rfl
    rw [if_pos h2]; exact h'
  tp := fun a xs h => by
    unfold fresh
    split
    · next h2 =>
      cases q : H a with
      | none => rw [q] at h2; cases h2
      | some o =>
        have := g.hh a o (fun z => nomatch z) q
        rw [h] at this
        cases (Option.some.inj this)
        exact b.tp a xs q
    · exact g.tp a xs h
  ow := fun p hp => by
    obtain ⟨h1, h2, h3⟩ := g.ow p hp
    have h4 : H p.1 = none := h3.resolve_right (fun z => nomatch z)
    refine ⟨?_, h2, .inl h4⟩
    unfold fresh
    rw [if_neg (by rw [h4]; exact fun z => nomatch z)]
    exact h1
  nd := g.nd
theorem Gr.all {F H : Hp} (b : Gr F H F H) : Gr H H H H := ⟨Same.refl _, fun _ _ _ h => h, fun _ h => h, Same.refl _, fun _ _ h => h, fun _ _ h => h, fun _ h => (nomatch h), List.nodup_nil⟩
/-- owned data that lean on nothing but what stands still -/
class OIm (α : Type) [d : Dat α] (od : OD α) : Prop where
  oimm : ∀ {C : GCtx} {F H : Hp} {v : V} {x : α} {L : LO}, (∀ a xs, H a = some (.tup xs) → F a = some (.tup xs)) → od.orep C H v x L → od.orep C F v x L
instance mList {α : Type} [d : Dat α] [i : Imm α] : OIm (List α) oList := ⟨fun t ⟨a, vs, e, h, r⟩ => ⟨a, vs, e, h, r.imm t⟩⟩
theorem slots_pad {C : GCtx} {F : Hp} : ∀ n, Slots C F (List.replicate n none) (List.replicate n .no) [] := by
  intro n
  induction n with
  | zero => exact .nil
  | succ n ih => exact .cons (L := []) rfl ih
theorem slots_app {C : GCtx} {F : Hp} {σ1 σ2 : St} {Γ1 Γ2 : List Cell} {L1 L2 : LO} (a : Slots C F σ1 Γ1 L1) (b : Slots C F σ2 Γ2 L2) : Slots C F (σ1 ++ σ2) (Γ1 ++ Γ2) (L1 ++ L2) := by
  induction a with
  | nil => exact b
  | cons h r ih => rw [List.append_assoc]; exact .cons h ih
/-- a def over data that it leaves as they are, which may let exceptions out -/
def FnX (C : GCtx) (Γ : List Cell) (post : Cell → Prop) (xp : Exn → Prop) (vs : List V) (H : Hp) (Q : VK) (E : XK) : Prop :=
  ∃ F, Gr F H F H ∧ Slots C F (vs.map some) Γ [] ∧ (∀ v F' H' c L, post c → Wk ⟨F, H, []⟩ F' L H' → CellOk C F' (some v) c L → Q v H') ∧
    ∀ x d F' H', xp x → Wk ⟨F, H, []⟩ F' [] H' → x.at F' d → E (.ref x.cls) d H'
theorem FnX.fn {post : Cell → Prop} {xp : Exn → Prop} {vs : List V} {H : Hp} {Q : VK} {E : XK} (h : FnX C Γ post xp vs H Q E) : Fn C Γ post vs H Q := let ⟨F, g, s, q, _⟩ := h; ⟨F, g, s, q⟩
theorem FnX.len {post : Cell → Prop} {xp : Exn → Prop} {vs : List V} {H : Hp} {Q : VK} {E : XK} (h : FnX C Γ post xp vs H Q E) : vs.length = Γ.length := h.fn.len
theorem FnX.mono {post post' : Cell → Prop} {xp xp' : Exn → Prop} {vs : List V} {H : Hp} {Q : VK} {E : XK} (h : FnX C Γ post xp vs H Q E) (m : ∀ c, post' c → post c) (mx : ∀ x, xp' x → xp x) : FnX C Γ post' xp' vs H Q E := by
  obtain ⟨F, g, s, q, qx⟩ := h
  exact ⟨F, g, s, fun v F' H' c L p => q v F' H' c L (m c p), fun x d F' H' p => qx x d F' H' (mx x p)⟩
theorem Fn.x {post : Cell → Prop} {vs : List V} {H : Hp} {Q : VK} {E : XK} (h : Fn C Γ post vs H Q) : FnX C Γ post (fun _ => False) vs H Q E := let ⟨F, g, s, q⟩ := h; ⟨F, g, s, q, fun _ _ _ _ z => z.elim⟩
def SpX (C : GCtx) (sp : Sp) (cs : List Cell) (post : Cell → Prop) (xp : Exn → Prop) : Prop := ∀ vs H Q E, FnX C cs post xp vs H Q E → sp vs H Q E
theorem SpX.w {sp : Sp} {cs : List Cell} {post : Cell → Prop} (h : SpX C sp cs post fun _ => False) : SpW C sp cs post := fun vs H Q E f => h vs H Q E f.x
theorem FnX.body {N : List Str} {post : Cell → Prop} {xp : Exn → Prop} {vs : List V} {H : Hp} {Q : VK} {E : XK} {t : TS} (h : FnX C Γ post xp vs H Q E)
    (hz : Z ⟨C, fun _ => E, fun x _ => xp x⟩ t (Γ ++ List.replicate (N.length - Γ.length) .no) { nx := fun _ => post (.val dUnit ()), rt := fun c _ => post c, bk := fun _ => False, ct := fun _ => False }) : t { nx := fun _ H' => Q .non H', rt := Q } (L2.start N vs) H := by
  have hl := h.len
  obtain ⟨F, g, s, q, qx⟩ := h
  have st : State ⟨C, fun _ => E, fun x _ => xp x⟩ ⟨F, H, []⟩ F (L2.start N vs) H (Γ ++ List.replicate (N.length - Γ.length) .no) := by
    refine ⟨fun x d F' σ' H' Γ' k ⟨L, kw, _⟩ hd => qx x d F' H' k (kw.sub (fun _ z => nomatch z) List.nodup_nil) hd, [], g, ?_⟩
    unfold L2.start
    rw [← hl]
    exact slots_app s (slots_pad _)
  refine hz ⟨F, H, []⟩ F (L2.start N vs) H _ rfl st ⟨fun F' σ' H' Γ' p s' => ?_, fun F' σ' H' Γ' v c L L' p kw rc sl => ?_, fun _ _ _ _ z => z.elim, fun _ _ _ _ z => z.elim⟩
  · obtain ⟨_, L, kw, _⟩ := s'
    refine q .non F' H' (.val dUnit ()) [] p (kw.sub (fun _ z => nomatch z) List.nodup_nil) ⟨rfl, .non, rfl, rfl⟩
  · have nd : (L.map Prod.fst).Nodup := by
      have := kw.nd
      rw [List.map_append] at this
      exact (List.nodup_append.mp this).1
    exact q v F' H' c L p (kw.sub (fun p hp => List.mem_append_left _ hp) nd) rc
/-- THE BODY of such a def -/
theorem Fn.body {N : List Str} {post : Cell → Prop} {vs : List V} {H : Hp} {Q : VK} {t : TS} (h : Fn C Γ post vs H Q)
    (hz : Z (calm C) t (Γ ++ List.replicate (N.length - Γ.length) .no) { nx := fun _ => post (.val dUnit ()), rt := fun c _ => post c, bk := fun _ => False, ct := fun _ => False }) : t { nx := fun _ H' => Q .non H', rt := Q } (L2.start N vs) H := FnX.body (E := fun _ _ _ => False) h.x hz
/-! calls that may raise -/
theorem w_callX {sp : Sp} {E : St → XK} {tl : TA} {kx : α → Prop} (hE : E = Y.E) (h : WA Y tl Γ fun cs => SpX Y.g sp cs (fun c => ∃ r, c = .val d r ∧ kx r) fun x => Y.kx x Γ) : W Y (tCallS sp E tl) Γ d kx := fun e F σ H s Q q => h e F σ H s _ fun vs F1 H1 cs hc g1 sl => by
  subst hE
  refine hc vs H1 Q _ ⟨F1, g1.base, sl, fun v F' H' c L ⟨r, ec, kr⟩ g2 rc => ?_, fun x d F' H' kx' g2 hd => ?_⟩
  · subst ec
    obtain ⟨e1, v', e2, rv⟩ := rc
    subst e1
    cases (Option.some.inj e2)
    exact q v F' H' r kr (g1.trans0 g2) rv
  · exact s.1 x d F' σ H' Γ kx' ((s.grow g1).grow g2).2 hd
theorem o_callX {sp : Sp} {E : St → XK} {tl : TA} {od : @OD α d} {kx : α → Prop} (hE : E = Y.E) (h : WA Y tl Γ fun cs => SpX Y.g sp cs (fun c => ∃ r, c = .own d od none r ∧ kx r) fun x => Y.kx x Γ) : O Y (tCallS sp E tl) Γ od kx := fun e F σ H s Q q => h e F σ H s _ fun vs F1 H1 cs hc g1 sl => by
  subst hE
  refine hc vs H1 Q _ ⟨F1, g1.base, sl, fun v F' H' c L ⟨r, ec, kr⟩ g2 rc => ?_, fun x d F' H' kx' g2 hd => ?_⟩
  · subst ec
    obtain ⟨v', e2, _, rv⟩ := rc
    cases (Option.some.inj e2)
    exact q v F' H' L r kr (by simpa using g1.trans g2) rv
  · exact s.1 x d F' σ H' Γ kx' ((s.grow g1).grow g2).2 hd
end
end G

/-! G4: comprehensions, sorted, isinstance, equality, sets and dicts. -/
namespace G
open PySem L2

/-! ### targets that touch but their own slots -/
def Tg (g : TG) (js : List Nat) : Prop := ∀ v σ H (Q : St → Hp → Prop), g v σ H Q → g v σ H fun σ' H' => wipe σ' js = wipe σ js ∧ Q σ' H'
def Tgs (g : TGs) (js : List Nat) : Prop := ∀ vs σ H (Q : St → Hp → Prop), g vs σ H Q → g vs σ H fun σ' H' => wipe σ' js = wipe σ js ∧ Q σ' H'
theorem set_comm {α : Type _} (l : List α) {i j : Nat} (a b : α) (h : i ≠ j) : (l.set i a).set j b = (l.set j b).set i a := by
  apply List.ext_getElem?
  intro m
  simp only [List.getElem?_set, List.length_set]
  by_cases h1 : j = m <;> by_cases h2 : i = m <;> simp_all
theorem wipe_at {σ : St} {i : Nat} {o : Option V} : ∀ {js : List Nat}, i ∈ js → wipe (σ.set i o) js = wipe σ js
  | [], h => nomatch h
  | j :: js, h => by
    unfold wipe
    by_cases hi : i ∈ js
    · rw [wipe_at hi]
    · have e : i = j := by
        rcases List.mem_cons.mp h with h | h
        · exact h
        · exact absurd h hi
      subst e
      have q : ∀ (js : List Nat), i ∉ js → wipe (σ.set i o) js = (wipe σ js).set i o := by
        intro js
        induction js with
        | nil => intro _; rfl
        | cons m js ih =>
          intro h
          unfold wipe
          rw [ih (fun z => h (List.mem_cons_of_mem _ z)), set_comm _ _ _ (fun z => h (by rw [z]; exact List.mem_cons_self))]
      rw [q js hi]
      exact List.set_set _
theorem tg_name {i : Nat} {js : List Nat} (h : i ∈ js) : Tg (gName i) js := fun v σ H Q q => ⟨wipe_at h, q⟩
theorem tgs_nil {js : List Nat} : Tgs gNil js := fun vs σ H Q ⟨e, q⟩ => ⟨e, rfl, q⟩
theorem tgs_cons {g : TG} {gs : TGs} {js : List Nat} (h : Tg g js) (hs : Tgs gs js) (m : ∀ v σ H (Q Q' : St → Hp → Prop), (∀ σ H, Q σ H → Q' σ H) → g v σ H Q → g v σ H Q') (ms : ∀ v σ H (Q Q' : St → Hp → Prop), (∀ σ H, Q σ H → Q' σ H) → gs v σ H Q → gs v σ H Q') : Tgs (gCons g gs) js := fun vs σ H Q ⟨v, r, e, q⟩ =>
  ⟨v, r, e, m _ _ _ _ _ (fun σ1 H1 ⟨e1, q1⟩ => ms _ _ _ _ _ (fun σ2 H2 ⟨e2, q2⟩ => ⟨e2.trans e1, q2⟩) (hs _ _ _ _ q1)) (h _ _ _ _ q)⟩
def MoG (g : TG) : Prop := ∀ v σ H (Q Q' : St → Hp → Prop), (∀ σ H, Q σ H → Q' σ H) → g v σ H Q → g v σ H Q'
def MoGs (g : TGs) : Prop := ∀ v σ H (Q Q' : St → Hp → Prop), (∀ σ H, Q σ H → Q' σ H) → g v σ H Q → g v σ H Q'
theorem mo_name {i : Nat} : MoG (gName i) := fun _ _ _ _ _ m q => m _ _ q
theorem mos_nil : MoGs gNil := fun _ _ _ _ _ m ⟨e, q⟩ => ⟨e, m _ _ q⟩
theorem mos_cons {g : TG} {gs : TGs} (h : MoG g) (hs : MoGs gs) : MoGs (gCons g gs) := fun _ _ _ _ _ m ⟨v, r, e, q⟩ => ⟨v, r, e, h _ _ _ _ _ (fun _ _ q => hs _ _ _ _ _ m q) q⟩
theorem mo_tup {K : PySem.W.Frag} {n : Nat} {gs : TGs} (h : MoGs gs) : MoG (gTup K n gs) := fun _ _ _ _ _ m ⟨a, xs, e, s, l, q⟩ => ⟨a, xs, e, s, l, h _ _ _ _ _ m q⟩
theorem tgs_cons' {g : TG} {gs : TGs} {js : List Nat} (h : Tg g js ∧ MoG g) (hs : Tgs gs js ∧ MoGs gs) : Tgs (gCons g gs) js ∧ MoGs (gCons g gs) := ⟨tgs_cons h.1 hs.1 h.2 hs.2, mos_cons h.2 hs.2⟩
theorem tgs_nil' {js : List Nat} : Tgs gNil js ∧ MoGs gNil := ⟨tgs_nil, mos_nil⟩
theorem tg_name' {i : Nat} {js : List Nat} (h : i ∈ js) : Tg (gName i) js ∧ MoG (gName i) := ⟨tg_name h, mo_name⟩
theorem tg_tup' {K : PySem.W.Frag} {n : Nat} {gs : TGs} {js : List Nat} (h : Tgs gs js ∧ MoGs gs) : Tg (gTup K n gs) js ∧ MoG (gTup K n gs) := ⟨fun _ _ _ _ ⟨a, xs, e, s, l, q⟩ => ⟨a, xs, e, s, l, h.1 _ _ _ _ q⟩, mo_tup h.2⟩

def wipeC (Γ : List Cell) : List Nat → List Cell
  | [] => Γ
  | v :: vs => (wipeC Γ vs).set v .no
section
variable {C : GCtx} {Y : YC} {e : En} {F F' : Hp} {σ : St} {H H' : Hp} {Γ : List Cell}
theorem State.len (s : State Y e F σ H Γ) : σ.length = Γ.length := let ⟨_, _, _, sl⟩ := s; sl.len
theorem State.wipe (s : State Y e F σ H Γ) : ∀ vs : List Nat, State Y e F (wipe σ vs) H (wipeC Γ vs)
  | [] => s
  | v :: vs => by
    have ih := State.wipe s vs
    unfold L2.wipe wipeC
    cases q : (wipeC Γ vs)[v]? with
    | some c => exact ih.forget q
    | none =>
      have h1 : (wipeC Γ vs).length ≤ v := List.getElem?_eq_none_iff.mp q
      have h2 : (L2.wipe σ vs).length ≤ v := by rw [ih.len]; exact h1
      rw [List.set_eq_of_length_le h1, List.set_eq_of_length_le h2]
      exact ih
theorem State.growL {L' : LO} (s : State Y e F σ H Γ) (g : Wk ⟨F, H, []⟩ F' L' H') : State Y e F' σ H' Γ := by
  obtain ⟨hx, L, k, sl⟩ := s
  have k2 := k.trans g
  have k3 : Wk e F' ([] ++ L' ++ L) H' := by simpa using k2
  exact ⟨hx, L, by simpa using k3.drop, sl.mono g.ff⟩
end

/-! ### comprehensions -/
section
variable {C : GCtx} {Y : YC} {Γ : List Cell} {te ta tb tc : TE} {t u tt : TT} {α β γ δ : Type} {d1 : Dat α} {d : Dat α} {d2 : Dat β} {k : Ks} {t1 t2 ts : TS} {g : TG}

def CompB (Y : YC) (g : TG) (tt : TT) (te : TE) {α β : Type} (d : Dat α) (d2 : Dat β) (kx : List β → Prop) (get : Nat → Option α) (n : Nat) (Γ : List Cell) : Prop :=
  ∃ I : Nat → List β → Prop, I 0 [] ∧ (∀ i x ys, get i = some x → I i ys → A Y g Γ d x fun Γ2 => T Y tt Γ2 fun b => (b = true → W Y te Γ2 d2 fun y => ys.length < PySem.sizeLine ∧ I (i + 1) (ys ++ [y])) ∧ (b = false → I (i + 1) ys)) ∧ ∀ ys, I n ys → kx ys
/-- one turn -/
theorem comp_turn {e : En} {F1 : Hp} {σ : St} {H1 : Hp} {vs : List Nat} {D : Addr} {x : α} {v : V} {I I' : List β → Prop} (s1 : State Y e F1 σ H1 Γ) (hT : Tg g vs)
    (hs : ∀ ys, I ys → A Y g (wipeC Γ vs) d x fun Γ2 => T Y tt Γ2 fun b => (b = true → W Y te Γ2 d2 fun y => ys.length < PySem.sizeLine ∧ I' (ys ++ [y])) ∧ (b = false → I' ys)) (rx : ∀ F', Same F1 F' → d.rep Y.g F' v x) {H : Hp}
    (h : ∃ F' acc ys, Wk ⟨F1, H1, []⟩ F' [(D, .lst acc)] H ∧ Reps d2 Y.g F' acc ys ∧ I ys) :
    g v (wipe σ vs) H fun σ2 H2 => wipe σ2 vs = wipe σ vs ∧ tt σ2 H2 fun b H3 =>
      if b = true then te σ2 H3 fun y H4 => ∃ acc, H4 D = some (.lst acc) ∧ acc.length < PySem.sizeLine ∧ (∃ F' acc' ys, Wk ⟨F1, H1, []⟩ F' [(D, .lst acc')] (upd H4 D (.lst (acc ++ [y]))) ∧ Reps d2 Y.g F' acc' ys ∧ I' ys) else (∃ F' acc ys, Wk ⟨F1, H1, []⟩ F' [(D, .lst acc)] H3 ∧ Reps d2 Y.g F' acc ys ∧ I' ys) := by
  obtain ⟨F', acc, ys, kw, r, hi⟩ := h
  have st := (s1.growL kw).wipe vs
  have ww : ∀ σ0 : St, wipe (wipe σ0 vs) vs = wipe σ0 vs := by
    intro σ0
    have : ∀ (l : List Nat) (σ1 : St), (∀ j ∈ l, (σ1[j]? = none ∨ σ1[j]? = some none)) → wipe σ1 l = σ1 := by
      intro l
      induction l with
      | nil => intro _ _; rfl
      | cons j l ih =>
        intro σ1 hj
        unfold wipe
        rw [ih σ1 fun m hm => hj m (List.mem_cons_of_mem _ hm)]
        apply List.ext_getElem?
        intro m
        rw [List.getElem?_set]
        by_cases hm : j = m
        · subst hm
          rcases hj j List.mem_cons_self with z | z
          · rw [z, if_pos rfl, if_neg (Nat.not_lt.mpr (List.getElem?_eq_none_iff.mp z))]
          · rw [z, if_pos rfl, if_pos (List.getElem?_eq_some_iff.mp z).1]
        · rw [if_neg hm]
    refine this vs _ fun j hj => ?_
    cases q : (wipe σ0 vs)[j]? with
    | none => exact .inl rfl
    | some o =>
      cases o with
      | none => exact .inr rfl
      | some y => exact absurd hj (wipe_some q).2
  have key := hs ys hi e F' _ H v st (rx F' kw.ff) (fun σ2 H2 => tt σ2 H2 fun b H3 =>
      if b = true then te σ2 H3 fun y H4 => ∃ acc, H4 D = some (.lst acc) ∧ acc.length < PySem.sizeLine ∧ (∃ F' acc' ys, Wk ⟨F1, H1, []⟩ F' [(D, .lst acc')] (upd H4 D (.lst (acc ++ [y]))) ∧ Reps d2 Y.g F' acc' ys ∧ I' ys) else (∃ F' acc ys, Wk ⟨F1, H1, []⟩ F' [(D, .lst acc)] H3 ∧ Reps d2 Y.g F' acc ys ∧ I' ys)) fun σ2 Γ2 h2 st2 => by
    refine h2 e F' σ2 H st2 _ fun b F3 H3 kb g3 => ?_
    have kw3 := kw.trans0 g3
    cases b with
    | false => exact ⟨F3, acc, ys, kw3, r.mono g3.ff, kb.2 rfl⟩
    | true =>
      refine kb.1 rfl e F3 σ2 H3 (st2.grow g3) _ fun y F4 H4 yv ⟨hl, ky⟩ g4 ry => ?_
      have kw4 := kw3.trans0 g4
      have hD : H4 D = some (.lst acc) := (kw4.ow (D, .lst acc) (by simp)).2.1
      exact ⟨acc, hD, by rw [r.len]; exact hl, F4, acc ++ [y], ys ++ [yv], kw4.put (fun _ z => by cases z), (r.mono (g3.ff.trans g4.ff)).append (Reps.one ry), ky⟩
  have key2 := hT v _ H _ key
  rw [ww] at key2
  exact key2
theorem o_lcR {vs : List Nat} {kx : List β → Prop} (hT : Tg g vs ∧ MoG g) (h : R Y ta Γ dInt fun n => -(2 ^ 62) ≤ n ∧ n < 2 ^ 62 ∧ CompB Y g tt te dInt d2 kx (rng 0 n.toNat) n.toNat (wipeC Γ vs)) : O Y (tLc (iRng1 (tCons ta tNil)) g tt te vs) Γ (oList (d := d2)) kx := fun e F σ H s Q q => h e F σ H s _ fun v F1 H1 n ⟨l1, l2, I, h0, hs, hd⟩ g1 r1 => by
  cases (show v = .int n from r1)
  refine ⟨n, rfl, l1, l2, fun D hD => ?_⟩
  have kw0 : Wk ⟨F1, H1, []⟩ F1 [(D, .lst [])] (upd H1 D (.lst [])) := g1.base.own hD (fun _ z => by cases z)
  refine lc_range (lo := 0) (n := n.toNat) (fun i H => ∃ F' acc ys, Wk ⟨F1, H1, []⟩ F' [(D, .lst acc)] H ∧ Reps d2 Y.g F' acc ys ∧ I i ys) ⟨F1, [], [], kw0, trivial, h0⟩ (fun i H hw p => ?_) fun H ⟨F', acc, ys, kw, ra, hi⟩ => ?_
  · exact comp_turn (d := dInt) (s.grow g1) hT.1 (hs i (0 + i) · (by unfold rng; rw [if_pos hw])) (fun F' sm => rfl) p
  · exact q _ F' H _ ys (hd ys hi) (by simpa using g1.trans kw) ⟨D, acc, rfl, rfl, ra⟩
/-- no test -/
theorem t_yes {kb : Bool → Prop} (h : kb true) : T Y tYes Γ kb := fun e F σ H s Q q => q true F H h s.base
theorem getElem?_filterTake {α : Type} (p : α → Bool) (xs : List α) {i : Nat} {x : α} (h : xs[i]? = some x) : (xs.take (i + 1)).filter p = (xs.take i).filter p ++ (if p x then [x] else []) := by
  rw [List.take_add_one, h, List.filter_append]
  congr 1
  cases hp : p x <;> simp [hp]
def rngL (lo : Int) (n : Nat) : List Int := (List.range n).map fun i : Nat => lo + (i : Int)
theorem rng_get (lo : Int) (n i : Nat) : rng lo n i = (rngL lo n)[i]? := by
  unfold rng rngL
  rw [List.getElem?_map]
  by_cases h : i < n
  · rw [if_pos h, List.getElem?_range h]; rfl
  · rw [if_neg h, List.getElem?_eq_none (by simpa using h)]; rfl
theorem rngL_len (lo : Int) (n : Nat) : (rngL lo n).length = n := by simp [rngL]

/-! ### sorted -/
def isort (xs : List Int) : List Int := xs.mergeSort (fun a b => decide (a ≤ b))
theorem isort_perm (xs : List Int) : (isort xs).Perm xs := List.mergeSort_perm _ _
theorem isort_pw (xs : List Int) : (isort xs).Pairwise (· ≤ ·) := by
  have h := List.pairwise_mergeSort (le := fun a b : Int => decide (a ≤ b)) (by intro a b c; simp; omega) (by intro a b; simp; omega) xs
  exact h.imp (by simp)
theorem sorted_eq {xs ys : List Int} (p : xs.Perm ys) (h1 : xs.Pairwise (· ≤ ·)) (h2 : ys.Pairwise (· ≤ ·)) : xs = ys :=
  List.Perm.eq_of_pairwise (fun a b _ _ h h' => Int.le_antisymm h h') h1 h2 p
theorem isort_eq {xs ys : List Int} (p : ys.Perm xs) (h : ys.Pairwise (· ≤ ·)) : ys = isort xs := sorted_eq (p.trans (isort_perm xs).symm) h (isort_pw xs)
theorem o_sorted {kx : List Int → Prop} (h : R Y ta Γ (dList (d := dInt)) fun xs => kx (isort xs)) : O Y (tCB (rSortedI Y.K) (tCons ta tNil)) Γ (oList (d := dInt)) kx := fun e F σ H s Q q => h e F σ H s _ fun v F' H' xs kx g ⟨a, vs, e1, hs, r⟩ => by
  subst e1
  cases r.ints
  refine ⟨a, xs, rfl, hs, fun ns' p pm pw hp => ?_⟩
  rw [isort_eq pm pw]
  obtain ⟨h1, h2⟩ := o_new (d := dInt) (L := []) g.base hp (Reps.ofInts (isort xs))
  exact q _ F' _ _ _ kx (by simpa using g.trans h1) h2

/-! ### isinstance -/
class Ty (α : Type) [d : Dat α] where
  tn : String
  ty : ∀ {C : GCtx} {H : Hp} {v : V} {x : α}, d.rep C H v x → TyX C.K H v (.type tn)
instance tyInt : Ty Int := ⟨"int", fun {C H v x} h => by cases (show v = .int x from h); exact .base (.int x)⟩
instance tyBool : Ty Bool := ⟨"bool", fun {C H v x} h => by cases (show v = .bl x from h); exact .base (.bl x)⟩
instance tyStr : Ty Str := ⟨"str", fun {C H v x} h => by cases (show v = .str x from h); exact .base (.str x)⟩
theorem ty_sql {K : PySem.W.Frag} {H : Hp} {a : Addr} {xs : List V} (h : SqL K H a xs) : TyX K H (.ref a) (.type "list") := by
  rcases h with (h | ⟨o, h⟩) | ⟨o, its, n, h, hc, _⟩
  · exact .base (.lst h)
  · exact .base (.frz h)
  · exact .kList h hc
theorem ty_tpa {K : PySem.W.Frag} {H : Hp} {a : Addr} {xs : List V} (h : TpA K H a xs) : TyX K H (.ref a) (.type "tuple") := by
  rcases h with h | (h | ⟨o, h⟩) | ⟨o, its, n, h, hc, _⟩
  · exact .base (.tup h)
  · cases h
  · cases h
  · exact .kTuple h hc
instance tyList {α : Type} [d : Dat α] : Ty (List α) := ⟨"list", fun ⟨a, vs, e, h, r⟩ => by subst e; exact ty_sql (.inl h)⟩
instance tyTup {α : Type} [d : Dat α] : Ty (Tup α) := ⟨"tuple", fun ⟨a, vs, e, h, r⟩ => by subst e; exact ty_tpa h⟩
instance tyPair {α β : Type} [d1 : Dat α] [d2 : Dat β] : Ty (α × β) := ⟨"tuple", fun ⟨a, _, _, e, h, _⟩ => by subst e; exact ty_tpa h⟩
instance tyT3 {α β γ : Type} [d1 : Dat α] [d2 : Dat β] [d3 : Dat γ] : Ty (T3 α β γ) := ⟨"tuple", fun ⟨a, _, _, _, e, h, _⟩ => by subst e; exact ty_tpa h⟩
instance tyT4 {α β γ δ : Type} [d1 : Dat α] [d2 : Dat β] [d3 : Dat γ] [d4 : Dat δ] : Ty (T4 α β γ δ) := ⟨"tuple", fun ⟨a, _, _, _, _, e, h, _⟩ => by subst e; exact ty_tpa h⟩
/-! ### equality of data -/
class DE (α : Type) [d : Dat α] where
  toD : α → PyData
  dep : Nat
  dp : ∀ {C : GCtx} {H : Hp} {v : V} {x : α}, d.rep C H v x → Dp C.K H v (toD x)
  lay : ∀ x, (toD x).plain = true
  deep : ∀ x, (toD x).depth ≤ dep
  eqv : ∀ x y, PyData.eqv (toD x) (toD y) = true ↔ x = y
instance deInt : DE Int := ⟨.int, 1, fun {C H v x} h => by cases (show v = .int x from h); exact .int x, fun _ => by simp [PyData.plain], fun _ => by simp [PyData.depth], fun x y => by simp [PyData.eqv]⟩
instance deStr : DE Str := ⟨.str, 1, fun {C H v x} h => by cases (show v = .str x from h); exact .str x, fun _ => by simp [PyData.plain], fun _ => by simp [PyData.depth], fun x y => by simp [PyData.eqv]⟩
instance deBool : DE Bool := ⟨.bool, 1, fun {C H v x} h => by cases (show v = .bl x from h); exact .bl x, fun _ => by simp [PyData.plain], fun _ => by simp [PyData.depth], fun x y => by simp [PyData.eqv]⟩
theorem dpAll_of [de : @DE α d] {H : Hp} : ∀ {vs : List V} {xs : List α}, Reps d C H vs xs → DpAll C.K H vs (xs.map de.toD)
  | [], [], _ => .nil
  | _ :: _, _ :: _, h => .cons (de.dp h.1) (dpAll_of h.2)
  | [], _ :: _, h => h.elim
  | _ :: _, [], h => h.elim
theorem eqvAll_of [de : @DE α d] : ∀ xs ys : List α, PyData.eqvAll (xs.map de.toD) (ys.map de.toD) = true ↔ xs = ys
  | [], [] => by simp [PyData.eqvAll]
  | x :: xs, y :: ys => by simp [PyData.eqvAll, de.eqv, eqvAll_of xs ys]
  | [], _ :: _ => by simp [PyData.eqvAll]
  | _ :: _, [] => by simp [PyData.eqvAll]
theorem layAll_of [de : @DE α d] : ∀ xs : List α, PyData.plainAll (xs.map de.toD) = true
  | [] => by simp [PyData.plainAll]
  | x :: xs => by simp [PyData.plainAll, de.lay, layAll_of xs]
theorem depAll_of [de : @DE α d] : ∀ xs : List α, PyData.depthAll (xs.map de.toD) ≤ de.dep
  | [] => by simp [PyData.depthAll]
  | x :: xs => by
    simp only [List.map_cons, PyData.depthAll]
    exact Nat.max_le.mpr ⟨de.deep x, depAll_of xs⟩
instance deList [de : @DE α d] : @DE (List α) dList :=
  ⟨fun xs => .list (xs.map de.toD), de.dep + 1, fun ⟨a, vs, e, h, r⟩ => by subst e; exact .lst h (dpAll_of r), fun xs => by simp [PyData.plain, layAll_of], fun xs => by simp [PyData.depth, depAll_of], fun xs ys => by simp [PyData.eqv, eqvAll_of]⟩
instance deTup [de : @DE α d] : @DE (Tup α) dTup :=
  ⟨fun xs => .tuple (xs.l.map de.toD), de.dep + 1, fun ⟨a, vs, e, h, r⟩ => by subst e; exact .tup h.sq (dpAll_of r), fun xs => by simp [PyData.plain, layAll_of], fun xs => by simp [PyData.depth, depAll_of], fun xs ys => by
    obtain ⟨xs⟩ := xs
    obtain ⟨ys⟩ := ys
    simp [PyData.eqv, eqvAll_of]⟩
instance dePair {α β : Type} {d1 : Dat α} {d2 : Dat β} [de1 : @DE α d1] [de2 : @DE β d2] : @DE (α × β) dPair :=
  ⟨fun x => .tuple [de1.toD x.1, de2.toD x.2], max de1.dep de2.dep + 1, fun ⟨a, v1, v2, e, h, r1, r2⟩ => by subst e; exact .tup h.sq (.cons (de1.dp r1) (.cons (de2.dp r2) .nil)), fun x => by simp [PyData.plain, PyData.plainAll, de1.lay, de2.lay],
    fun x => by have h1 := de1.deep x.1; have h2 := de2.deep x.2; simp [PyData.depth, PyData.depthAll]; omega, fun x y => by
    obtain ⟨x1, x2⟩ := x
    obtain ⟨y1, y2⟩ := y
    simp [PyData.eqv, PyData.eqvAll, de1.eqv, de2.eqv]⟩
instance deT3 {α β γ : Type} {d1 : Dat α} {d2 : Dat β} {d3 : Dat γ} [de1 : @DE α d1] [de2 : @DE β d2] [de3 : @DE γ d3] : @DE (T3 α β γ) dT3 :=
  ⟨fun x => .tuple [de1.toD x.a, de2.toD x.b, de3.toD x.c], max de1.dep (max de2.dep de3.dep) + 1, fun ⟨a, v1, v2, v3, e, h, r1, r2, r3⟩ => by subst e; exact .tup h.sq (.cons (de1.dp r1) (.cons (de2.dp r2) (.cons (de3.dp r3) .nil))), fun x => by simp [PyData.plain, PyData.plainAll, de1.lay, de2.lay, de3.lay],
    fun x => by have h1 := de1.deep x.a; have h2 := de2.deep x.b; have h3 := de3.deep x.c; simp [PyData.depth, PyData.depthAll]; omega, fun x y => by
    obtain ⟨x1, x2, x3⟩ := x
    obtain ⟨y1, y2, y3⟩ := y
    simp [PyData.eqv, PyData.eqvAll, de1.eqv, de2.eqv, de3.eqv]⟩
instance deT4 {α β γ δ : Type} {d1 : Dat α} {d2 : Dat β} {d3 : Dat γ} {d4 : Dat δ} [de1 : @DE α d1] [de2 : @DE β d2] [de3 : @DE γ d3] [de4 : @DE δ d4] : @DE (T4 α β γ δ) dT4 :=
  ⟨fun x => .tuple [de1.toD x.a, de2.toD x.b, de3.toD x.c, de4.toD x.d], max de1.dep (max de2.dep (max de3.dep de4.dep)) + 1, fun ⟨a, v1, v2, v3, v4, e, h, r1, r2, r3, r4⟩ => by subst e; exact .tup h.sq (.cons (de1.dp r1) (.cons (de2.dp r2) (.cons (de3.dp r3) (.cons (de4.dp r4) .nil)))), fun x => by simp [PyData.plain, PyData.plainAll, de1.lay, de2.lay, de3.lay, de4.lay],
    fun x => by have h1 := de1.deep x.a; have h2 := de2.deep x.b; have h3 := de3.deep x.c; have h4 := de4.deep x.d; simp [PyData.depth, PyData.depthAll]; omega, fun x y => by
    obtain ⟨x1, x2, x3, x4⟩ := x
    obtain ⟨y1, y2, y3, y4⟩ := y
    simp [PyData.eqv, PyData.eqvAll, de1.eqv, de2.eqv, de3.eqv, de4.eqv]⟩
theorem de_shaped [de : @DE α d] (hd : de.dep ≤ 64) (x : α) : shP (de.toD x) = true := by
  unfold shP
  rw [de.lay x, decide_eq_true (Nat.le_trans (de.deep x) hd)]
  rfl
theorem de_eqv [de : @DE α d] [DecidableEq α] (x y : α) : PyData.eqv (de.toD x) (de.toD y) = decide (x = y) := by
  by_cases h : x = y
  · rw [decide_eq_true h]; exact (de.eqv x y).mpr h
  · rw [decide_eq_false h]
    cases q : PyData.eqv (de.toD x) (de.toD y) with
    | false => rfl
    | true => exact absurd ((de.eqv x y).mp q) h
theorem w_eqD [de : @DE α d] [DecidableEq α] {kb : Bool → Prop} (hd : de.dep ≤ 64) (h : R Y ta Γ d fun x => R Y tb Γ d fun y => kb (decide (x = y))) : W Y (tOp (rEqP Y.K) ta tb) Γ dBool kb := fun e F σ H s Q q => h e F σ H s _ fun v1 F1 H1 x h1 g1 r1 => h1 e F1 σ H1 (s.grow g1) _ fun v2 F2 H2 y ky g2 r2 =>
  ⟨de.toD x, de.toD y, de.dp (d.mono g2.hh0 r1), de.dp r2, de_shaped hd x, de_shaped hd y, q _ F2 H2 _ ky (g1.trans0 g2) (by rw [de_eqv]; rfl)⟩
theorem w_neD [de : @DE α d] [DecidableEq α] {kb : Bool → Prop} (hd : de.dep ≤ 64) (h : R Y ta Γ d fun x => R Y tb Γ d fun y => kb (!decide (x = y))) : W Y (tOp (rNeP Y.K) ta tb) Γ dBool kb := fun e F σ H s Q q => h e F σ H s _ fun v1 F1 H1 x h1 g1 r1 => h1 e F1 σ H1 (s.grow g1) _ fun v2 F2 H2 y ky g2 r2 =>
  ⟨de.toD x, de.toD y, de.dp (d.mono g2.hh0 r1), de.dp r2, de_shaped hd x, de_shaped hd y, q _ F2 H2 _ ky (g1.trans0 g2) (by rw [de_eqv]; rfl)⟩

/-! ### sets of ints -/
structure IS where
  l : List Int
def isAdd (s : IS) (k : Int) : IS := if k ∈ s.l then s else ⟨s.l ++ [k]⟩
def SetOk (S : Int → Bool) (n : Nat) (s : IS) : Prop := (∀ k, S k = decide (k ∈ s.l)) ∧ n = s.l.length
instance dSet : Dat IS := ⟨fun C F v s => ∃ a S n, v = .ref a ∧ F a = some (SetO C.w a S n) ∧ SetOk S n s, fun m ⟨a, S, n, e, h, o⟩ => ⟨a, S, n, e, m _ _ h, o⟩⟩
instance oSet : OD IS where
  orep C F v s L := ∃ a S n, v = .ref a ∧ L = [(a, SetO C.w a S n)] ∧ SetOk S n s
  omono m := fun h => h
  view := fun ⟨a, S, n, e, h, o⟩ m k => ⟨a, S, n, e, k (a, SetO _ a S n) (by rw [h]; exact List.mem_cons_self), o⟩
theorem o_set0 {kx : IS → Prop} (h : kx ⟨[]⟩) : O Y (tCB (rSet0 Y.w) tNil) Γ oSet kx := fun e F σ H s Q q => ⟨rfl, fun p hp => by
  have k := s.base.own (o := SetO Y.w p (fun _ => false) 0) hp (fun _ z => by cases z)
  exact q _ F _ _ _ h k ⟨p, _, _, rfl, rfl, fun k => by simp, rfl⟩⟩
theorem w_notinS {kb : Bool → Prop} (h : R Y ta Γ dInt fun x => R Y tb Γ dSet fun s => kb (!decide (x ∈ s.l))) : W Y (tOp (rSNotIn Y.w) ta tb) Γ dBool kb := fun e F σ H s Q q => h e F σ H s _ fun v1 F1 H1 x h1 g1 r1 => h1 e F1 σ H1 (s.grow g1) _ fun v2 F2 H2 s ky g2 ⟨a, S, n, e2, ha, o⟩ => by
  cases (show v1 = .int x from r1)
  subst e2
  exact ⟨x, a, S, n, rfl, rfl, ha, q _ F2 H2 _ ky (g1.trans0 g2) (by rw [o.1 x]; rfl)⟩
theorem z_sadd {i : Nat} {pin : Option V} {x : IS} (hi : Γ[i]? = some (.own dSet oSet pin x)) (h : R Y te Γ dInt fun y => x.l.length + 1 < PySem.scanBound ∧ k.nx (Γ.set i (.own dSet oSet pin (isAdd x y)))) : Z Y (tDrop (tSAdd Y.w (tVar i) (tCons te tNil))) Γ k := fun e F σ H D hM s c => by
  obtain ⟨v0, _, _, e1, ⟨a0, S0, n0, rfl, rfl, _⟩, kw0, _⟩ := s.mut hi
  have ha0 : H a0 = some (SetO Y.w a0 S0 n0) := (kw0.ow (a0, SetO Y.w a0 S0 n0) (by simp)).2.1
  refine ⟨.ref a0, e1, ⟨a0, S0, n0, rfl, ha0⟩, h e F σ H s _ fun w F' H' y ⟨hl, ky⟩ g rw' => ?_⟩
  cases (show w = .int y from rw')
  obtain ⟨v, Li, rest, e2, ⟨a, S, n, rfl, rfl, o⟩, kw, f⟩ := (s.grow g).mut hi
  rw [e1] at e2
  cases (Option.some.inj e2)
  have ha : H' a0 = some (SetO Y.w a0 S n) := (kw.ow (a0, SetO Y.w a0 S n) (by simp)).2.1
  refine ⟨a0, y, S, n, rfl, rfl, ha, by rw [o.2]; exact hl, ?_⟩
  refine c.nx F' σ _ _ ky (f F' _ [(a0, _)] (isAdd x y) (Same.refl F') (kw.put (fun _ z => by cases z)) ⟨a0, _, _, rfl, rfl, fun j => ?_, ?_⟩)
  · unfold isAdd
    show (S j || decide (j = y)) = _
    rw [o.1 j]
    by_cases hy : y ∈ x.l
    · rw [if_pos hy]
      by_cases hj : j = y
      · subst hj; simp [hy]
      · simp [hj]
    · rw [if_neg hy]
      by_cases hj : j = y
      · subst hj; simp
      · simp [hj]
  · unfold isAdd
    show (if S y = true then n else n + 1) = _
    rw [o.1 y, o.2]
    by_cases hy : y ∈ x.l
    · simp [hy]
    · simp [hy]

/-! ### dicts by ints -/
structure DI (β : Type) where
  kv : List (Int × β)
def KReps {β : Type} (d : Dat β) (C : GCtx) (F : Hp) : List (Key × V) → List (Int × β) → Prop
  | [], [] => True
  | p :: ps, x :: xs => p.1 = Sum.inl x.1 ∧ d.rep C F p.2 x.2 ∧ KReps d C F ps xs
  | _, _ => False
section
variable {F F' : Hp}
theorem KReps.mono (s : Same F F') : ∀ {ps : List (Key × V)} {xs : List (Int × α)}, KReps d C F ps xs → KReps d C F' ps xs
  | [], [], _ => trivial
  | _ :: _, _ :: _, h => ⟨h.1, d.mono s h.2.1, KReps.mono s h.2.2⟩
  | [], _ :: _, h => h.elim
  | _ :: _, [], h => h.elim
theorem KReps.len : ∀ {ps : List (Key × V)} {xs : List (Int × α)}, KReps d C F ps xs → ps.length = xs.length
  | [], [], _ => rfl
  | _ :: _, _ :: _, h => by simp [KReps.len h.2.2]
  | [], _ :: _, h => h.elim
  | _ :: _, [], h => h.elim
theorem valV_cons {κ : Type} [DecidableEq κ] (p : κ × V) (ps : List (κ × V)) (k : κ) : valV (p :: ps) k = if p.1 = k then some p.2 else valV ps k := by
  unfold valV
  by_cases h : p.1 = k
  · rw [List.find?_cons_of_pos (by simp [h]), if_pos h]; rfl
  · rw [List.find?_cons_of_neg (by simp [h]), if_neg h]
theorem lookup_cons' {β : Type} (x : Int × β) (xs : List (Int × β)) (k : Int) : (x :: xs).lookup k = if x.1 = k then some x.2 else xs.lookup k := by
  obtain ⟨a, b⟩ := x
  rw [List.lookup_cons]
  by_cases h : a = k
  · subst h; simp
  · have : (k == a) = false := by simp; exact fun z => h z.symm
    rw [this]; simp [h]
theorem KReps.look : ∀ {ps : List (Key × V)} {xs : List (Int × α)} (k : Int), KReps d C F ps xs → (∀ x, xs.lookup k = some x → ∃ v, valV ps (Sum.inl k) = some v ∧ d.rep C F v x) ∧ (xs.lookup k = none → valV ps (Sum.inl k : Key) = none)
  | [], [], k, _ => ⟨fun _ h => (nomatch h), fun _ => rfl⟩
  | p :: ps, x :: xs, k, h => by
    rw [valV_cons, lookup_cons', h.1]
    by_cases hk : x.1 = k
    · rw [if_pos hk, if_pos (by rw [hk])]
      exact ⟨fun y e => ⟨p.2, rfl, by cases e; exact h.2.1⟩, fun z => (nomatch z)⟩
    · rw [if_neg hk, if_neg (fun z => hk (Sum.inl.inj z))]
      exact KReps.look k h.2.2
  | [], _ :: _, _, h => h.elim
  | _ :: _, [], _, h => h.elim
end
/-- d[k] = v on pairs -/
def putI {β : Type} (kv : List (Int × β)) (k : Int) (v : β) : List (Int × β) := if (kv.lookup k).isSome then kv.map (fun p => if p.1 = k then (k, v) else p) else kv ++ [(k, v)]
instance dDI {α : Type} [d : Dat α] : Dat (DI α) := ⟨fun C F v x => ∃ a ps, v = .ref a ∧ F a = some (.dK ps) ∧ KReps d C F ps x.kv, fun m ⟨a, ps, e, h, r⟩ => ⟨a, ps, e, m _ _ h, r.mono m⟩⟩
instance oDI {α : Type} [d : Dat α] : OD (DI α) where
  orep C F v x L := ∃ a ps, v = .ref a ∧ L = [(a, .dK ps)] ∧ KReps d C F ps x.kv
  omono m := fun ⟨a, ps, e, h, r⟩ => ⟨a, ps, e, h, r.mono m⟩
  view := fun ⟨a, ps, e, h, r⟩ m k => ⟨a, ps, e, k (a, .dK ps) (by rw [h]; exact List.mem_cons_self), r.mono m⟩
theorem w_inDI {kb : Bool → Prop} (h : R Y ta Γ dInt fun x => R Y tb Γ (dDI (d := d)) fun s => kb (s.kv.lookup x).isSome) : W Y (tDIn ta tb) Γ dBool kb := fun e F σ H s Q q => h e F σ H s _ fun v1 F1 H1 x h1 g1 r1 => h1 e F1 σ H1 (s.grow g1) _ fun v2 F2 H2 s ky g2 ⟨a, ps, e2, ha, r⟩ => by
  cases (show v1 = .int x from r1)
  subst e2
  refine ⟨a, _, rfl, DGet.k (k := Sum.inl x) ha, q _ F2 H2 _ ky (g1.trans0 g2) ?_⟩
  have l := r.look x
  cases hq : s.kv.lookup x with
  | none => rw [l.2 hq]; rfl
  | some y => obtain ⟨v, hv, _⟩ := l.1 y hq; rw [hv]; rfl
theorem w_notinDI {kb : Bool → Prop} (h : R Y ta Γ dInt fun x => R Y tb Γ (dDI (d := d)) fun s => kb (!(s.kv.lookup x).isSome)) : W Y (tDNotIn ta tb) Γ dBool kb := fun e F σ H s Q q => h e F σ H s _ fun v1 F1 H1 x h1 g1 r1 => h1 e F1 σ H1 (s.grow g1) _ fun v2 F2 H2 s ky g2 ⟨a, ps, e2, ha, r⟩ => by
  cases (show v1 = .int x from r1)
  subst e2
  refine ⟨a, _, rfl, DGet.k (k := Sum.inl x) ha, q _ F2 H2 _ ky (g1.trans0 g2) ?_⟩
  have l := r.look x
  cases hq : s.kv.lookup x with
  | none => rw [l.2 hq]; rfl
  | some y => obtain ⟨v, hv, _⟩ := l.1 y hq; rw [hv]; rfl
theorem w_dget {kx : α → Prop} (h : W Y ta Γ (dDI (d := d)) fun s => R Y tb Γ dInt fun x => ∃ y, s.kv.lookup x = some y ∧ kx y) : W Y (tDGet ta tb) Γ d kx := fun e F σ H s Q q => h e F σ H s _ fun v1 F1 H1 s1 h1 g1 ⟨a, ps, e2, ha, r⟩ => h1 e F1 σ H1 (s.grow g1) _ fun v2 F2 H2 x ⟨y, hy, ky⟩ g2 r2 => by
  cases (show v2 = .int x from r2)
  subst e2
  obtain ⟨v, hv, rv⟩ := (r.look x).1 y hy
  refine ⟨a, v, rfl, ?_, q _ F2 H2 _ ky (g1.trans0 g2) (d.mono g2.ff rv)⟩
  have := DGet.k (k := Sum.inl x) (g2.fh _ _ (g2.ff _ _ ha))
  rw [hv] at this
  exact this
theorem r_dget {kx : α → Prop} (h : R Y ta Γ (dDI (d := d)) fun s => R Y tb Γ dInt fun x => ∃ y, s.kv.lookup x = some y ∧ kx y) : R Y (tDGet ta tb) Γ d kx := fun e F σ H s Q q => h e F σ H s _ fun v1 F1 H1 s1 h1 g1 ⟨a, ps, e2, ha, r⟩ => h1 e F1 σ H1 (s.grow g1) _ fun v2 F2 H2 x ⟨y, hy, ky⟩ g2 r2 => by
  cases (show v2 = .int x from r2)
  subst e2
  obtain ⟨v, hv, rv⟩ := (r.look x).1 y hy
  refine ⟨a, v, rfl, ?_, q _ F2 H2 _ ky (g1.trans0 g2) (d.mono g2.hh0 rv)⟩
  have := DGet.k (k := Sum.inl x) (g2.hh0 _ _ ha)
  rw [hv] at this
  exact this
end
end G

section
set_option maxHeartbeats 2000000
/-! G5: lists or tuples; sorted of both; data owned within data. -/
namespace SrtO
open PySem PyProof.Rows Srt
section
variable {prog : Program} {w : World} {A : Around} {E : Value → Shared → Prop} {s : Shared}
end
end SrtO
namespace L2
open PySem PySem.Spec PyProof.Rows
section
variable {X : Cx}
/-- what walks a list or a tuple -/
def iSeq (K : PySem.W.Frag) (tl : TE) : TI := fun σ H R => tl σ H fun x H1 => ∃ a, x = .ref a ∧ (((∃ xs, SqL K H1 a xs) ∧ R (Itl K a) H1) ∨ ((∃ xs, SqT K H1 a xs) ∧ R (Itt K a) H1))
/-- a new record that walks: the iterator's own object, just laid -/
theorem born {pins : List (Addr × Obj)} {σ : St} {H : Hp} {s : Shared} {R : It → Hp → Prop} {tg : Expr} {J : It} {tn : Nat → Heap → Prop} {ob : Obj} (I : Inv X pins σ H s) (T : Turn X.prog X.w X.K tg J [s.heap.objs.size] s.heap.objs.size tn) (t0 : tn 0 (s.heap.push ob)) (q : R J H) :
    PIE X pins σ tg R (.ref s.heap.objs.size) { s with heap := s.heap.push ob } :=
  ⟨_, _, _, _, H, rfl, I.kept (t' := s.toks) (fun _ _ z => Heap.get?_push_of_some _ z), T, t0, fun b hb => by
    cases List.mem_singleton.mp hb
    exact I.fpOk (Nat.le_refl _) (I.hok.fresh (Nat.le_refl _)), q⟩
theorem pi_seq {tg l : Expr} {tl : TE} (hl : PE X l tl) : PI X tg l (iSeq X.K tl) := ⟨fun pins s σ H R I h => thn (hl.run pins s σ H _ I h) fun v s1 ⟨x, H1, I1, r1, a, e, q1⟩ => by
  subst e
  cases r1
  rcases q1 with ⟨⟨xs, hq⟩, q⟩ | ⟨⟨xs, hq⟩, q⟩
  · obtain ⟨its, _, p, _⟩ := I1.list hq
    exact wpAny_pyIter_list p.isList (born I1 (turn_list a _) ⟨_, Heap.get?_push_size _ rfl, rfl, rfl⟩ q)
  · obtain ⟨its, _, p, _⟩ := I1.tuple hq
    exact wpAny_pyIter_tuple (show s1.heap.IsTuple a its.toArray from p) (born I1 (turn_tuple a _) ⟨_, Heap.get?_push_size _ rfl, rfl, rfl⟩ q)⟩
theorem pi_qK (K : PySem.W.Frag) {tg l : Expr} {tl : TE} (hl : PE X l tl) (h : X.K = K := by rfl) : PI X tg l (iSeq K tl) := h ▸ pi_seq hl
end
end L2
namespace G
open PySem L2
/-! ### a list or a tuple, its items alike -/
structure Sq (α : Type) where
  l : List α
  deriving DecidableEq
instance dSq {α : Type} [d : Dat α] : Dat (Sq α) :=
  ⟨fun C F v xs => ∃ a vs, v = .ref a ∧ (SqL C.K F a vs ∨ TpA C.K F a vs) ∧ Reps d C F vs xs.l, fun s ⟨a, vs, e, h, r⟩ => ⟨a, vs, e, h.imp s.seq (·.mono s), r.mono s⟩⟩
section
variable {C : GCtx} {Y : YC} {Γ : List Cell} {te ta tb tc : TE} {t u tt : TT} {α β γ δ : Type} {d1 : Dat α} {d : Dat α} {d2 : Dat β} {k : Ks} {t1 t2 ts : TS} {g : TG}
theorem w_sqL {kx : Sq α → Prop} (h : W Y te Γ (dList (d := d)) fun xs => kx ⟨xs⟩) : W Y te Γ (dSq (d := d)) kx := fun e F σ H s Q q => h e F σ H s Q fun v F' H' x kx g ⟨a, vs, e, h, r⟩ => q v F' H' ⟨x⟩ kx g ⟨a, vs, e, .inl h, r⟩
theorem w_sqT {kx : Sq α → Prop} (h : W Y te Γ (dTup (d := d)) fun xs => kx ⟨xs.l⟩) : W Y te Γ (dSq (d := d)) kx := fun e F σ H s Q q => h e F σ H s Q fun v F' H' x kx g ⟨a, vs, e, h, r⟩ => q v F' H' ⟨x.l⟩ kx g ⟨a, vs, e, .inr h, r⟩
theorem w_lenQ {k : Int → Prop} (h : R Y ta Γ (dSq (d := d)) fun xs => k (xs.l.length : Int)) : W Y (tCB (fun xs H Q => ∃ p ys, xs = [.ref p] ∧ (SqL Y.K H p ys ∨ SqT Y.K H p ys) ∧ Q (.int ys.length) H) (tCons ta tNil)) Γ dInt k := fun e F σ H s Q q => h e F σ H s _ fun v F' H' x kx g ⟨a, vs, e1, h1, r⟩ => by
  subst e1
  exact ⟨a, vs, rfl, h1.imp id (·.sq), q _ F' H' _ (by rw [r.len]; exact kx) g rfl⟩
theorem w_tupOfQ {k : Tup α → Prop} (h : W Y ta Γ (dSq (d := d)) fun xs => k ⟨xs.l⟩) : W Y (tCB (fun xs H Q => ∃ p ys, xs = [.ref p] ∧ ((SqL Y.K H p ys ∧ ∀ l, H l = none → Q (.ref l) (upd H l (.tup ys))) ∨ (SqT Y.K H p ys ∧ Q (.ref p) H))) (tCons ta tNil)) Γ (dTup (d := d)) k := fun e F σ H s Q q => h e F σ H s _ fun v F' H' xs kx g ⟨a, vs, e1, hs, r⟩ => by
  subst e1
  rcases hs with hs | hs
  · refine ⟨a, vs, rfl, .inl ⟨g.fh.seq hs, fun l hl => ?_⟩⟩
    have g4 := Gr.lay (o := .tup vs) g.base hl
    exact q _ _ _ ⟨xs.l⟩ kx (g.trans0 g4) ⟨l, vs, rfl, .inl upd_same, r.mono g4.ff⟩
  · exact ⟨a, vs, rfl, .inr ⟨(hs.mono g.fh).sq, q _ F' H' ⟨xs.l⟩ kx g ⟨a, vs, rfl, hs, r⟩⟩⟩
/-! ### lists owned within lists, within dicts -/
/-- each item owned: their values, their footprints one behind the other -/
def OReps {α : Type} {d : Dat α} (od : OD α) (C : GCtx) (F : Hp) : List V → List α → LO → Prop
  | [], [], L => L = []
  | v :: vs, x :: xs, L => ∃ L1 L2, L = L1 ++ L2 ∧ od.orep C F v x L1 ∧ OReps od C F vs xs L2
  | _, _, _ => False
theorem OReps.mono {od : @OD α d} {F F' : Hp} (s : Same F F') : ∀ {vs : List V} {xs : List α} {L : LO}, OReps od C F vs xs L → OReps od C F' vs xs L
  | [], [], _, h => h
  | _ :: _, _ :: _, _, ⟨L1, L2, e, h1, h2⟩ => ⟨L1, L2, e, od.omono s h1, OReps.mono s h2⟩
  | [], _ :: _, _, h => h.elim
  | _ :: _, [], _, h => h.elim
theorem OReps.view {od : @OD α d} {F H : Hp} (s : Same F H) : ∀ {vs : List V} {xs : List α} {L : LO}, OReps od C F vs xs L → (∀ p ∈ L, H p.1 = some p.2) → Reps d C H vs xs
  | [], [], _, _, _ => trivial
  | _ :: _, _ :: _, _, ⟨L1, L2, e, h1, h2⟩, k => ⟨od.view h1 s fun p hp => k p (by rw [e]; exact List.mem_append_left _ hp), OReps.view s h2 fun p hp => k p (by rw [e]; exact List.mem_append_right _ hp)⟩
  | [], _ :: _, _, h, _ => h.elim
  | _ :: _, [], _, h, _ => h.elim
theorem OReps.len {od : @OD α d} {F : Hp} : ∀ {vs : List V} {xs : List α} {L : LO}, OReps od C F vs xs L → vs.length = xs.length
  | [], [], _, _ => rfl
  | _ :: _, _ :: _, _, ⟨_, _, _, _, h2⟩ => by simp [OReps.len h2]
  | [], _ :: _, _, h => h.elim
  | _ :: _, [], _, h => h.elim
theorem OReps.append {od : @OD α d} {F : Hp} {ws : List V} {ys : List α} {M : LO} : ∀ {vs : List V} {xs : List α} {L : LO}, OReps od C F vs xs L → OReps od C F ws ys M → OReps od C F (vs ++ ws) (xs ++ ys) (L ++ M)
  | [], [], _, h, g => by cases (show _ = [] from h); exact g
  | _ :: _, _ :: _, _, ⟨L1, L2, e, h1, h2⟩, g => ⟨L1, L2 ++ M, by rw [e, List.append_assoc], h1, OReps.append h2 g⟩
  | [], _ :: _, _, h, _ => h.elim
  | _ :: _, [], _, h, _ => h.elim
theorem OReps.one {od : @OD α d} {F : Hp} {v : V} {x : α} {L : LO} (h : od.orep C F v x L) : OReps od C F [v] [x] L := ⟨L, [], by simp, h, rfl⟩
theorem OReps.at {od : @OD α d} {F : Hp} : ∀ {vs : List V} {xs : List α} {L : LO} {i : Nat} {x : α}, OReps od C F vs xs L → xs[i]? = some x → ∃ v L1 Li L2, vs[i]? = some v ∧ L = L1 ++ Li ++ L2 ∧ od.orep C F v x Li ∧ ∀ x' Li', od.orep C F v x' Li' → OReps od C F vs (xs.set i x') (L1 ++ Li' ++ L2)
  | [], [], _, i, _, _, e => by cases i <;> cases e
  | v :: vs, y :: xs, L, 0, x, ⟨L1, L2, e, h1, h2⟩, hx => by
    cases (Option.some.inj hx : y = x)
    exact ⟨v, [], L1, L2, rfl, by simpa using e, h1, fun x' Li' h => ⟨Li', L2, by simp, h, h2⟩⟩
  | v :: vs, y :: xs, L, i + 1, x, ⟨L1, L2, e, h1, h2⟩, hx => by
    obtain ⟨w, M1, Mi, M2, e1, e2, h3, f⟩ := OReps.at (i := i) h2 hx
    exact ⟨w, L1 ++ M1, Mi, M2, e1, by rw [e, e2]; simp [List.append_assoc], h3, fun x' Li' h => ⟨L1, M1 ++ Li' ++ M2, by simp [List.append_assoc], h1, f x' Li' h⟩⟩
  | [], _ :: _, _, _, _, h, _ => h.elim
  | _ :: _, [], _, _, _, h, _ => h.elim
/-- a list that owns its items -/
@[reducible] def oDeep {α : Type} {d : Dat α} (od : OD α) : @OD (List α) dList where
  orep C F v xs L := ∃ a vs L', v = .ref a ∧ L = (a, .lst vs) :: L' ∧ OReps od C F vs xs L'
  omono s := fun ⟨a, vs, L', e, h, r⟩ => ⟨a, vs, L', e, h, r.mono s⟩
  view := fun ⟨a, vs, L', e, h, r⟩ s k => ⟨a, vs, e, .inl (k (a, .lst vs) (by rw [h]; exact List.mem_cons_self)), r.view s fun p hp => k p (by rw [h]; exact List.mem_cons_of_mem _ hp)⟩
instance mDeep {α : Type} [d : Dat α] {od : OD α} [i : OIm α od] : OIm (List α) (oDeep od) := ⟨fun {C F H v xs L} t ⟨a, vs, L', e, h, r⟩ => ⟨a, vs, L', e, h, by
  have go : ∀ {vs : List V} {xs : List α} {L : LO}, OReps od C H vs xs L → OReps od C F vs xs L := by
    intro vs xs L h
    induction vs generalizing xs L with
    | nil => cases xs with
      | nil => exact h
      | cons _ _ => exact h.elim
    | cons v vs ih => cases xs with
      | nil => exact h.elim
      | cons x xs => obtain ⟨L1, L2, e, h1, h2⟩ := h; exact ⟨L1, L2, e, i.oimm t h1, ih h2⟩
  exact go r⟩⟩
/-- each value owned -/
def OKReps {β : Type} {d : Dat β} (od : OD β) (C : GCtx) (F : Hp) : List (Key × V) → List (Int × β) → LO → Prop
  | [], [], L => L = []
  | p :: ps, x :: xs, L => ∃ L1 L2, L = L1 ++ L2 ∧ p.1 = Sum.inl x.1 ∧ od.orep C F p.2 x.2 L1 ∧ OKReps od C F ps xs L2
  | _, _, _ => False
theorem OKReps.mono {od : @OD α d} {F F' : Hp} (s : Same F F') : ∀ {ps : List (Key × V)} {xs : List (Int × α)} {L : LO}, OKReps od C F ps xs L → OKReps od C F' ps xs L
  | [], [], _, h => h
  | _ :: _, _ :: _, _, ⟨L1, L2, e, hk, h1, h2⟩ => ⟨L1, L2, e, hk, od.omono s h1, OKReps.mono s h2⟩
  | [], _ :: _, _, h => h.elim
  | _ :: _, [], _, h => h.elim
theorem OKReps.view {od : @OD α d} {F H : Hp} (s : Same F H) : ∀ {ps : List (Key × V)} {xs : List (Int × α)} {L : LO}, OKReps od C F ps xs L → (∀ p ∈ L, H p.1 = some p.2) → KReps d C H ps xs
  | [], [], _, _, _ => trivial
  | _ :: _, _ :: _, _, ⟨L1, L2, e, hk, h1, h2⟩, k => ⟨hk, od.view h1 s fun p hp => k p (by rw [e]; exact List.mem_append_left _ hp), OKReps.view s h2 fun p hp => k p (by rw [e]; exact List.mem_append_right _ hp)⟩
  | [], _ :: _, _, h, _ => h.elim
  | _ :: _, [], _, h, _ => h.elim
theorem OKReps.append {od : @OD α d} {F : Hp} {ws : List (Key × V)} {ys : List (Int × α)} {M : LO} : ∀ {vs : List (Key × V)} {xs : List (Int × α)} {L : LO}, OKReps od C F vs xs L → OKReps od C F ws ys M → OKReps od C F (vs ++ ws) (xs ++ ys) (L ++ M)
  | [], [], _, h, g => by cases (show _ = [] from h); exact g
  | _ :: _, _ :: _, _, ⟨L1, L2, e, hk, h1, h2⟩, g => ⟨L1, L2 ++ M, by rw [e, List.append_assoc], hk, h1, OKReps.append h2 g⟩
  | [], _ :: _, _, h, _ => h.elim
  | _ :: _, [], _, h, _ => h.elim
/-- xs at k becomes x' (the first pair with that key) -/
def setI {β : Type} : List (Int × β) → Int → β → List (Int × β)
  | [], _, _ => []
  | p :: ps, k, x => if p.1 = k then (p.1, x) :: ps else p :: setI ps k x
theorem OKReps.at {od : @OD α d} {F : Hp} : ∀ {ps : List (Key × V)} {xs : List (Int × α)} {L : LO} {i : Int} {x : α}, OKReps od C F ps xs L → xs.lookup i = some x → ∃ v L1 Li L2, valV ps (Sum.inl i) = some v ∧ L = L1 ++ Li ++ L2 ∧ od.orep C F v x Li ∧ ∀ x' Li', od.orep C F v x' Li' → OKReps od C F ps (setI xs i x') (L1 ++ Li' ++ L2)
  | [], [], _, i, _, _, e => by cases e
  | p :: vs, y :: xs, L, i, x, ⟨L1, L2, e, hk, h1, h2⟩, hx => by
    rw [lookup_cons'] at hx
    rw [valV_cons, hk]
    unfold setI
    by_cases hi : y.1 = i
    · rw [if_pos hi] at hx
      cases (Option.some.inj hx : y.2 = x)
      refine ⟨p.2, [], L1, L2, by rw [if_pos (by rw [hi])], by simpa using e, h1, fun x' Li' h => ?_⟩
      rw [if_pos hi]
      exact ⟨Li', L2, by simp, hk, h, h2⟩
    · rw [if_neg hi] at hx
      simp only [if_neg hi]
      obtain ⟨w, M1, Mi, M2, e1, e2, h3, f⟩ := OKReps.at (i := i) h2 hx
      exact ⟨w, L1 ++ M1, Mi, M2, by rw [if_neg (fun z => hi (Sum.inl.inj z)), e1], by rw [e, e2]; simp [List.append_assoc], h3, fun x' Li' h => ⟨L1, M1 ++ Li' ++ M2, by simp [List.append_assoc], hk, h1, f x' Li' h⟩⟩
  | [], _ :: _, _, _, _, h, _ => h.elim
  | _ :: _, [], _, _, _, h, _ => h.elim
/-- a dict that owns its values -/
@[reducible] def oDeepDI {β : Type} {d : Dat β} (od : OD β) : @OD (DI β) dDI where
  orep C F v x L := ∃ a ps L', v = .ref a ∧ L = (a, .dK ps) :: L' ∧ OKReps od C F ps x.kv L'
  omono s := fun ⟨a, vs, L', e, h, r⟩ => ⟨a, vs, L', e, h, r.mono s⟩
  view := fun ⟨a, ps, L', e, h, r⟩ s k => ⟨a, ps, e, k (a, .dK ps) (by rw [h]; exact List.mem_cons_self), r.view s fun p hp => k p (by rw [h]; exact List.mem_cons_of_mem _ hp)⟩
/-- d[k].append(y) -/
theorem z_appendDI {pin : Option V} {i : Nat} {x : DI (List α)} (hi : Γ[i]? = some (.own (dDI (d := dList (d := d))) (oDeepDI (oList (d := d))) pin x)) (h : R Y ta Γ dInt fun n => ∃ xs, x.kv.lookup n = some xs ∧ W Y te Γ d fun y => xs.length < PySem.sizeLine ∧ k.nx (Γ.set i (.own (dDI (d := dList (d := d))) (oDeepDI (oList (d := d))) pin ⟨setI x.kv n (xs ++ [y])⟩))) :
    Z Y (tDrop (tBM Y.K "list" rAppend (tDGet (tVar i) ta) (tCons te tNil))) Γ k := fun e F σ H D hM s c => by
  obtain ⟨v0, e1, r0⟩ := s.own hi
  refine ⟨v0, e1, h e F σ H s _ fun v1 F1 H1 n ⟨xs, hx, hw⟩ g1 r1 => ?_⟩
  cases (show v1 = .int n from r1)
  obtain ⟨v, Li, rest, e2, ⟨a, ps, L', rfl, rfl, r⟩, kw, f⟩ := (s.grow g1).mut hi
  rw [e1] at e2
  cases (Option.some.inj e2)
  have ha : H1 a = some (.dK ps) := (kw.ow (a, .dK ps) (by simp)).2.1
  obtain ⟨w, M1, Mi, M2, e3, e4, ⟨b, us, rfl, rfl, ru⟩, f2⟩ := r.at hx
  have hb : H1 b = some (.lst us) := (kw.ow (b, .lst us) (by rw [e4]; simp)).2.1
  have hg := DGet.k (k := Sum.inl n) ha
  rw [e3] at hg
  refine ⟨a, .ref b, rfl, hg, .inl ⟨rfl, us, .inl (.inl hb)⟩, hw e F1 σ H1 (s.grow g1) _ fun y F2 H2 yv ⟨hl, ky⟩ g2 ry => ?_⟩
  have hb2 : H2 b = some (.lst us) := g2.hh0 _ _ hb
  refine ⟨b, us, y, rfl, rfl, hb2, by rw [ru.len]; exact hl, ?_⟩
  have kw2 := kw.trans0 g2
  obtain ⟨w2, N1, Ni, N2, e5, e6, ⟨b2, us2, h7, h8, ru2⟩, f3⟩ := (r.mono g2.ff).at hx
  rw [e3] at e5
  cases (Option.some.inj e5)
  cases h7
  subst h8
  have hb3 : H2 b = some (.lst us2) := (kw2.ow (b, .lst us2) (by rw [e6]; simp)).2.1
  rw [hb2] at hb3
  cases (Option.some.inj hb3)
  have st2 := (s.grow g1).grow g2
  obtain ⟨v', Li', rest', e9, _, _, f9⟩ := st2.mut hi
  refine c.nx F2 σ _ _ ky ?_
  have q3 := f3 (xs ++ [yv]) [(b, .lst (us ++ [y]))] ⟨b, _, rfl, rfl, (ru.mono g2.ff).append (Reps.one ry)⟩
  obtain ⟨hx0, L0, k0, sl0⟩ := st2
  obtain ⟨o0, P1, Pi, P2, f1, f22, ⟨u0, rfl, hp0, a0, ps0, L0', h30, h31, r30⟩, f4⟩ := sl0.get hi
  rw [e1] at f1
  cases (Option.some.inj f1)
  cases h30
  subst h31 f22
  have ha0 : H2 a = some (.dK ps0) := (k0.ow (a, .dK ps0) (by simp)).2.1
  rw [g2.hh0 _ _ ha] at ha0
  cases (Option.some.inj ha0)
  obtain ⟨w4, Q1, Qi, Q2, e10, e11, ⟨b4, us4, h40, h41, ru4⟩, f5⟩ := r30.at hx
  rw [e3] at e10
  cases (Option.some.inj e10)
  cases h40
  subst h41 e11
  have hb4 : H2 b = some (.lst us4) := (k0.ow (b, .lst us4) (by simp)).2.1
  rw [hb2] at hb4
  cases (Option.some.inj hb4)
  have q5 := f5 (xs ++ [yv]) [(b, .lst (us ++ [y]))] ⟨b, _, rfl, rfl, ru4.append (Reps.one ry)⟩
  have q6 := f4 F2 (some (.ref a)) (.own (dDI (d := dList (d := d))) (oDeepDI (oList (d := d))) pin ⟨setI x.kv n (xs ++ [yv])⟩) ((a, .dK ps) :: (Q1 ++ [(b, .lst (us ++ [y]))] ++ Q2)) (Same.refl _) ⟨.ref a, rfl, hp0, a, ps, _, rfl, rfl, q5⟩
  have z : σ.set i (some (.ref a)) = σ := by
    apply List.ext_getElem?
    intro j
    by_cases hj : i = j
    · subst hj
      obtain ⟨hlt, hv⟩ := List.getElem?_eq_some_iff.mp e1
      rw [List.getElem?_set_self hlt, e1]
    · rw [List.getElem?_set_ne hj]
  rw [z] at q6
  refine ⟨hx0, _, ?_, q6⟩
  have k1 : Wk e F2 ((P1 ++ (a, .dK ps) :: Q1) ++ [(b, .lst us)] ++ (Q2 ++ P2)) H2 := by simpa [List.append_assoc] using k0
  have k2 := k1.front.put (o' := .lst (us ++ [y])) (fun _ z => by cases z)
  have k3 : Wk e F2 ((P1 ++ (a, .dK ps) :: Q1) ++ [(b, .lst (us ++ [y]))] ++ (Q2 ++ P2)) (upd H2 b (.lst (us ++ [y]))) := Wk.back (Li := [(b, .lst (us ++ [y]))]) k2
  simpa [List.append_assoc] using k3
end
end G
end

/-! G6: small helps. -/
namespace G
open PySem L2
theorem atI_of {α : Type} {xs : List α} {i : Int} {x : α} (h0 : 0 ≤ i) (h : xs[i.toNat]? = some x) : atI xs i = some x := by
  obtain ⟨j, rfl⟩ : ∃ j : Nat, i = j := ⟨i.toNat, by omega⟩
  exact atI_nat h
theorem small1k {n : Nat} (h : n ≤ 100000) : n < PySem.sizeLine := Nat.lt_of_le_of_lt h (by decide)
theorem nodup_snoc {α : Type} {xs : List α} {x : α} (h : xs.Nodup) (hx : x ∉ xs) : (xs ++ [x]).Nodup :=
  List.nodup_append.mpr ⟨h, by simp, fun a ha b hb e => hx (by rw [List.mem_singleton] at hb; rw [← hb, ← e]; exact ha)⟩
theorem rng_some {lo : Int} {n i : Nat} {x : Int} (h : rng lo n i = some x) : i < n ∧ x = lo + i := by
  unfold rng at h
  split at h
  · next hi => exact ⟨hi, by cases h; rfl⟩
  · cases h

/-! ### dict comprehensions: new keys, owned values -/
section
variable {C : GCtx} {Y : YC} {Γ : List Cell} {te ta tb tc tk tv : TE} {t u tt : TT} {α β γ δ : Type} {d1 : Dat α} {d : Dat α} {d2 : Dat β} {k : Ks} {t1 t2 ts : TS} {g : TG}
theorem KReps_has {od : @OD β d2} {F : Hp} : ∀ {ps : List (Key × V)} {xs : List (Int × β)} {L : LO}, OKReps od C F ps xs L → ps.map (·.1) = xs.map fun p => (Sum.inl p.1 : Key)
  | [], [], _, _ => rfl
  | _ :: _, _ :: _, _, ⟨_, _, _, hk, _, h2⟩ => by simp [hk, KReps_has h2]
  | [], _ :: _, _, h => h.elim
  | _ :: _, [], _, h => h.elim
theorem putK_fresh {ps : List (Key × V)} {k : Key} {v : V} (h : valV ps k = none) : putK ps k v = ps ++ [(k, v)] := putK_new _ h
theorem OKReps.none {od : @OD β d2} {F : Hp} : ∀ {ps : List (Key × V)} {xs : List (Int × β)} {L : LO} {i : Int}, OKReps od C F ps xs L → xs.lookup i = none → valV ps (Sum.inl i : Key) = none
  | [], [], _, _, _, _ => rfl
  | p :: ps, x :: xs, _, i, ⟨_, _, _, hk, _, h2⟩, e => by
    rw [lookup_cons'] at e
    rw [valV_cons, hk]
    by_cases hi : x.1 = i
    · rw [if_pos hi] at e; cases e
    · rw [if_neg hi] at e
      rw [if_neg (fun z => hi (Sum.inl.inj z))]
      exact OKReps.none h2 e
  | [], _ :: _, _, _, h, _ => h.elim
  | _ :: _, [], _, _, h, _ => h.elim
theorem OKReps.len {od : @OD β d2} {F : Hp} {ps : List (Key × V)} {xs : List (Int × β)} {L : LO} (h : OKReps od C F ps xs L) : ps.length = xs.length := by
  have := congrArg List.length (KReps_has h)
  simpa using this
def DictB (Y : YC) (g : TG) (tt : TT) (tk tv : TE) {α β : Type} (d : Dat α) {d2 : Dat β} (od : OD β) (kx : DI β → Prop) (get : Nat → Option α) (n : Nat) (Γ : List Cell) : Prop :=
  ∃ I : Nat → List (Int × β) → Prop, I 0 [] ∧ (∀ i x kv, get i = some x → I i kv → A Y g Γ d x fun Γ2 => T Y tt Γ2 fun b => (b = true → W Y tk Γ2 dInt fun key => O Y tv Γ2 od fun val => kv.lookup key = none ∧ kv.length < PySem.sizeLine ∧ I (i + 1) (kv ++ [(key, val)])) ∧ (b = false → I (i + 1) kv)) ∧ ∀ kv, I n kv → kx ⟨kv⟩
theorem wipe_wipe {vs : List Nat} (σ0 : St) : wipe (wipe σ0 vs) vs = wipe σ0 vs := by
  have : ∀ (l : List Nat) (σ1 : St), (∀ j ∈ l, (σ1[j]? = none ∨ σ1[j]? = some none)) → wipe σ1 l = σ1 := by
    intro l
    induction l with
    | nil => intro _ _; rfl
    | cons j l ih =>
      intro σ1 hj
      unfold wipe
      rw [ih σ1 fun m hm => hj m (List.mem_cons_of_mem _ hm)]
      apply List.ext_getElem?
      intro m
      rw [List.getElem?_set]
      by_cases hm : j = m
      · subst hm
        rcases hj j List.mem_cons_self with z | z
        · rw [z, if_pos rfl, if_neg (Nat.not_lt.mpr (List.getElem?_eq_none_iff.mp z))]
        · rw [z, if_pos rfl, if_pos (List.getElem?_eq_some_iff.mp z).1]
      · rw [if_neg hm]
  refine this vs _ fun j hj => ?_
  cases q : (wipe σ0 vs)[j]? with
  | none => exact .inl rfl
  | some o =>
    cases o with
    | none => exact .inr rfl
    | some y => exact absurd hj (wipe_some q).2
theorem dict_turn {od : @OD β d2} {e : En} {F1 : Hp} {σ : St} {H1 : Hp} {vs : List Nat} {D : Addr} {x : α} {v : V} {I I' : List (Int × β) → Prop} (s1 : State Y e F1 σ H1 Γ) (hT : Tg g vs)
    (hs : ∀ kv, I kv → A Y g (wipeC Γ vs) d x fun Γ2 => T Y tt Γ2 fun b => (b = true → W Y tk Γ2 dInt fun key => O Y tv Γ2 od fun val => kv.lookup key = none ∧ kv.length < PySem.sizeLine ∧ I' (kv ++ [(key, val)])) ∧ (b = false → I' kv)) (rx : ∀ F', Same F1 F' → d.rep Y.g F' v x) {H : Hp}
    (h : ∃ F' ps kv L, Wk ⟨F1, H1, []⟩ F' ((D, .dK ps) :: L) H ∧ OKReps od Y.g F' ps kv L ∧ I kv) :
    g v (wipe σ vs) H fun σ2 H2 => wipe σ2 vs = wipe σ vs ∧ tt σ2 H2 fun b H3 =>
      if b = true then tk σ2 H3 fun y H4 => tv σ2 H4 fun z H5 => ∃ kvs k, y = kV k ∧ H5 D = some (.dK kvs) ∧ kvs.length < PySem.sizeLine ∧ (∃ F' ps kv L, Wk ⟨F1, H1, []⟩ F' ((D, .dK ps) :: L) (upd H5 D (.dK (putK kvs k z))) ∧ OKReps od Y.g F' ps kv L ∧ I' kv) else (∃ F' ps kv L, Wk ⟨F1, H1, []⟩ F' ((D, .dK ps) :: L) H3 ∧ OKReps od Y.g F' ps kv L ∧ I' kv) := by
  obtain ⟨F', ps, kv, L, kw, r, hi⟩ := h
  have st := (s1.growL kw).wipe vs
  have key := hs kv hi e F' _ H v st (rx F' kw.ff) (fun σ2 H2 => tt σ2 H2 fun b H3 =>
      if b = true then tk σ2 H3 fun y H4 => tv σ2 H4 fun z H5 => ∃ kvs k, y = kV k ∧ H5 D = some (.dK kvs) ∧ kvs.length < PySem.sizeLine ∧ (∃ F' ps kv L, Wk ⟨F1, H1, []⟩ F' ((D, .dK ps) :: L) (upd H5 D (.dK (putK kvs k z))) ∧ OKReps od Y.g F' ps kv L ∧ I' kv) else (∃ F' ps kv L, Wk ⟨F1, H1, []⟩ F' ((D, .dK ps) :: L) H3 ∧ OKReps od Y.g F' ps kv L ∧ I' kv)) fun σ2 Γ2 h2 st2 => by
    refine h2 e F' σ2 H st2 _ fun b F3 H3 kb g3 => ?_
    have kw3 := kw.trans0 g3
    cases b with
    | false => exact ⟨F3, ps, kv, L, kw3, r.mono g3.ff, kb.2 rfl⟩
    | true =>
      have st3 := st2.grow g3
      refine kb.1 rfl e F3 σ2 H3 st3 _ fun y F4 H4 yv hy g4 ry => ?_
      have st4 := st3.grow g4
      refine hy e F4 σ2 H4 st4 _ fun z F5 H5 Lz zv ⟨hn, hl, hI⟩ g5 rz => ?_
      cases (show y = .int yv from ry)
      have kw4 := kw3.trans0 g4
      have kw5 := kw4.trans g5
      have r5 := r.mono ((g3.ff.trans g4.ff).trans g5.ff)
      have hD : H5 D = some (.dK ps) := (kw5.ow (D, .dK ps) (by simp)).2.1
      refine ⟨ps, Sum.inl yv, rfl, hD, by rw [r5.len]; exact hl, F5, ps ++ [(Sum.inl yv, z)], kv ++ [(yv, zv)], L ++ Lz, ?_, r5.append ⟨Lz, [], by simp, rfl, rz, rfl⟩, hI⟩
      rw [putK_fresh (r5.none hn)]
      have k6 : Wk ⟨F1, H1, []⟩ F5 (Lz ++ [(D, .dK ps)] ++ L) H5 := by simpa [List.append_assoc] using kw5
      have k7 : Wk ⟨F1, H1, []⟩ F5 ((D, .dK (ps ++ [(Sum.inl yv, z)])) :: (Lz ++ L)) _ := k6.front.put (o' := .dK (ps ++ [(Sum.inl yv, z)])) (fun _ z => by cases z)
      refine k7.sub (fun p hp => ?_) ?_
      · simp only [List.mem_cons, List.mem_append] at hp ⊢
        rcases hp with h | h | h <;> simp [h]
      · exact (List.Perm.nodup_iff (List.Perm.map _ (List.Perm.cons _ List.perm_append_comm))).mp k7.nd
  have key2 := hT v _ H _ key
  rw [wipe_wipe] at key2
  exact key2
theorem dc_list {K : PySem.W.Frag} {a : Addr} {xs : List V} {g : TG} {tt : TT} {tk tv : TE} {vs : List Nat} {σ : St} {H1 : Hp} {D : Addr} {Qd : Hp → Prop} (Pv : Nat → Hp → Prop) (h0 : Pv 0 (upd H1 D (.dK []))) (hl : ∀ i H, i ≤ xs.length → Pv i H → SqL K H a xs)
    (hs : ∀ i x H, xs[i]? = some x → Pv i H → g x (wipe σ vs) H fun σ2 H2 => wipe σ2 vs = wipe σ vs ∧ tt σ2 H2 fun b H3 =>
      if b = true then tk σ2 H3 fun y H4 => tv σ2 H4 fun z H5 => ∃ kvs k, y = kV k ∧ H5 D = some (.dK kvs) ∧ kvs.length < PySem.sizeLine ∧ Pv (i + 1) (upd H5 D (.dK (putK kvs k z))) else Pv (i + 1) H3) (hd : ∀ H, Pv xs.length H → Qd H) :
    ∃ W : Nat → Nat → Hp → Prop, (∃ m, W 0 m (upd H1 D (.dK []))) ∧ ∀ i m H, W i m H →
      ((Itl K a).stop i H ∧ Qd H) ∨ ((Itl K a).go i H ∧ ∃ Nx : Hp → Prop, (∀ H', Nx H' → ∃ m', m' < m ∧ W (i + 1) m' H') ∧ ∀ x H', (Itl K a).yld i H x H' → g x (wipe σ vs) H' fun σ2 H2 => wipe σ2 vs = wipe σ vs ∧ tt σ2 H2 fun b H3 =>
        if b = true then tk σ2 H3 fun y H4 => tv σ2 H4 fun z H5 => ∃ kvs k, y = kV k ∧ H5 D = some (.dK kvs) ∧ kvs.length < PySem.sizeLine ∧ Nx (upd H5 D (.dK (putK kvs k z))) else Nx H3) := by
  refine ⟨fun i m H => m = xs.length - i ∧ i ≤ xs.length ∧ Pv i H, ⟨xs.length, by simp, Nat.zero_le _, h0⟩, fun i m H ⟨em, hi, p⟩ => ?_⟩
  have q := hl i H hi p
  by_cases hlt : i < xs.length
  · refine .inr ⟨⟨xs, xs[i], q, by simp [hlt]⟩, Pv (i + 1), fun H' p' => ⟨xs.length - (i + 1), by omega, rfl, hlt, p'⟩, fun x H' ⟨eh, y⟩ => ?_⟩
    rw [eh]
    exact hs i x H (y xs q) p
  · have el : i = xs.length := by omega
    rw [el] at p
    exact .inl ⟨⟨xs, q, by omega⟩, hd H p⟩
theorem o_dcQ {od : @OD β d2} {tl : TE} {vs : List Nat} {kx : DI β → Prop} (hT : Tg g vs ∧ MoG g) (h : W Y tl Γ (dSq (d := d)) fun xs => DictB Y g tt tk tv d od kx (fun i => xs.l[i]?) xs.l.length (wipeC Γ vs)) : O Y (tDc (iSeq Y.K tl) g tt tk tv vs) Γ (oDeepDI od) kx := fun e F σ H s Q q => h e F σ H s _ fun v F1 H1 xs ⟨I, h0, hs, hd⟩ g1 ⟨a, us, e1, hq, r⟩ => by
  subst e1
  have fin : ∀ {D : Addr} {H : Hp}, H1 D = none → (∃ F' ps kv L, Wk ⟨F1, H1, []⟩ F' ((D, .dK ps) :: L) H ∧ OKReps od Y.g F' ps kv L ∧ I us.length kv) → Q (.ref D) H := fun {D H} hD ⟨F', ps, kv, L, kw, ra, hi⟩ => by
    rw [r.len] at hi
    exact q _ F' H _ ⟨kv⟩ (hd kv hi) (by simpa using g1.trans kw) ⟨D, ps, L, rfl, rfl, ra⟩
  have kw0 : ∀ {D : Addr}, H1 D = none → Wk ⟨F1, H1, []⟩ F1 [(D, .dK [])] (upd H1 D (.dK [])) := fun hD => g1.base.own hD (fun _ z => by cases z)
  refine ⟨a, rfl, ?_⟩
  rcases hq with hq | hq
  · refine .inl ⟨⟨us, g1.fh.seq hq⟩, fun D hD => dc_list (K := Y.K) (a := a) (xs := us) (fun i H => ∃ F' ps kv L, Wk ⟨F1, H1, []⟩ F' ((D, .dK ps) :: L) H ∧ OKReps od Y.g F' ps kv L ∧ I i kv) ⟨F1, [], [], [], kw0 hD, rfl, h0⟩ (fun i H _ ⟨F', ps, kv, L, kw, _⟩ => (kw.ff.trans kw.fh).seq hq) (fun i w H hw p => ?_) fun H p => fin hD p⟩
    obtain ⟨x, hx, rx⟩ := r.getV hw
    exact dict_turn (s.grow g1) hT.1 (hs i x · hx) (fun F' sm => d.mono sm rx) p
  · refine .inr ⟨⟨us, (hq.mono g1.fh).sq⟩, fun D hD => dc_tup (K := Y.K) (a := a) (xs := us) (fun i H => ∃ F' ps kv L, Wk ⟨F1, H1, []⟩ F' ((D, .dK ps) :: L) H ∧ OKReps od Y.g F' ps kv L ∧ I i kv) ⟨F1, [], [], [], kw0 hD, rfl, h0⟩ (fun i H _ ⟨F', ps, kv, L, kw, _⟩ => (hq.mono (kw.ff.trans kw.fh)).sq) (fun i w H hw p => ?_) fun H p => fin hD p⟩
    obtain ⟨x, hx, rx⟩ := r.getV hw
    exact dict_turn (s.grow g1) hT.1 (hs i x · hx) (fun F' sm => d.mono sm rx) p

/-! ### lists that own lists -/
/-- xs.append(y), y new and owned -/
theorem z_appendO {od : @OD α d} {pin : Option V} {i : Nat} {xs : List α} (hi : Γ[i]? = some (.own (dList (d := d)) (oDeep od) pin xs)) (h : O Y te Γ od fun y => xs.length < PySem.sizeLine ∧ k.nx (Γ.set i (.own (dList (d := d)) (oDeep od) pin (xs ++ [y])))) :
    Z Y (tDrop (tBM Y.K "list" rAppend (tVar i) (tCons te tNil))) Γ k := fun e F σ H D hM s c => by
  obtain ⟨v0, _, _, e1, ⟨a0, vs0, L0, rfl, rfl, _⟩, kw0, _⟩ := s.mut hi
  have ha0 : H a0 = some (.lst vs0) := (kw0.ow (a0, .lst vs0) (by simp)).2.1
  refine ⟨.ref a0, e1, .inl ⟨rfl, vs0, .inl (.inl ha0)⟩, h e F σ H s _ fun w F' H' L' y ⟨hl, ky⟩ g rw' => ?_⟩
  obtain ⟨hx, L, k0, sl0⟩ := id s
  obtain ⟨o0, P1, Pi, P2, f1, f2, ⟨u0, rfl, hp0, a, vs, Lx, rfl, rfl, r⟩, f4⟩ := sl0.get hi
  rw [e1] at f1
  cases (Option.some.inj f1)
  subst f2
  have k1 := k0.trans g
  have ha : H' a0 = some (.lst vs) := (k1.ow (a0, .lst vs) (by simp)).2.1
  refine ⟨a0, vs, w, rfl, rfl, ha, by rw [r.len]; exact hl, ?_⟩
  have q6 := f4 F' (some (.ref a0)) (.own (dList (d := d)) (oDeep od) pin (xs ++ [y])) ((a0, .lst (vs ++ [w])) :: (Lx ++ L')) g.ff ⟨.ref a0, rfl, hp0, a0, _, _, rfl, rfl, (r.mono g.ff).append (OReps.one rw')⟩
  have z : σ.set i (some (.ref a0)) = σ := by
    apply List.ext_getElem?
    intro j
    by_cases hj : i = j
    · subst hj
      obtain ⟨hlt, hv⟩ := List.getElem?_eq_some_iff.mp e1
      rw [List.getElem?_set_self hlt, e1]
    · rw [List.getElem?_set_ne hj]
  rw [z] at q6
  refine c.nx F' σ _ _ ky ⟨hx, _, ?_, q6⟩
  have k2 : Wk e F' ((L' ++ P1) ++ [(a0, .lst vs)] ++ (Lx ++ P2)) H' := by simpa [List.append_assoc] using k1
  have k3 := k2.front.put (o' := .lst (vs ++ [w])) (fun _ z => by cases z)
  refine k3.sub (fun p hp => ?_) ?_
  · simp only [List.mem_cons, List.mem_append] at hp ⊢
    rcases hp with (h | h | h | h) | h <;> simp [h]
  · have n3 := k3.nd
    refine (List.Perm.nodup_iff (List.Perm.map _ ?_)).mp n3
    simp only [List.append_assoc, List.singleton_append, List.cons_append]
    refine List.Perm.trans ?_ List.perm_middle.symm
    refine List.Perm.cons _ ?_
    refine List.Perm.trans (List.perm_append_comm (l₁ := L')) ?_
    simp only [List.append_assoc]
    refine List.Perm.append_left _ (List.Perm.append_left _ ?_)
    exact List.perm_append_comm
theorem o_nilDeep {od : @OD α d} {kx : List α → Prop} (hk : kx []) : O Y (tLst tNil) Γ (oDeep od) kx := fun e F σ H s Q q => ⟨Nat.zero_le _, fun p hp =>
  q _ F _ _ [] hk (s.base.own hp (fun _ z => by cases z)) ⟨p, [], [], rfl, rfl, rfl⟩⟩
end
end G

/-! G7: what is owned, read as if it were frozen; comprehensions of owned items; the script. -/
namespace G
open PySem L2
section
variable {C : GCtx} {Y : YC} {Γ : List Cell} {te ta tb tc tk tv : TE} {t u tt : TT} {α β γ δ : Type} {d1 : Dat α} {d : Dat α} {d2 : Dat β} {k : Ks} {t1 t2 ts : TS} {g : TG}
theorem State.frzM {e : En} {F : Hp} {σ : St} {H : Hp} {od : @OD α d} {x : α} {i : Nat} {pin : Option V} (s : State Y e F σ H Γ) (h : Γ[i]? = some (.own d od pin x)) : ∃ e' F', Same F F' ∧ State (calm Y.g) e' F' σ H (Γ.set i (.val d x)) := by
  obtain ⟨_, L, k, sl⟩ := s
  obtain ⟨o, L1, Li, L2, e1, e2, ⟨v, rfl, hp, r⟩, f⟩ := sl.get h
  subst e2
  have kf := k.front
  have kb : Wk ⟨F, fun _ => none, []⟩ F (Li ++ (L1 ++ L2)) H := ⟨Same.refl _, fun _ _ _ z => (nomatch z), fun _ z => absurd rfl z, kf.fh, fun _ z _ => absurd rfl z, kf.tp, fun p hp => ⟨(kf.ow p hp).1, (kf.ow p hp).2.1, .inl rfl⟩, kf.nd⟩
  have ff : ∀ p ∈ Li, F p.1 = none := fun p hp => (kf.ow p (List.mem_append_left _ hp)).1
  have nd : (Li.map Prod.fst).Nodup := by
    have := kf.nd
    rw [List.map_append] at this
    exact (List.nodup_append.mp this).1
  have sm := same_plus ff nd
  have q := f (plus F Li) (some v) (.val d x) [] sm ⟨rfl, v, rfl, od.view r sm (plus_get ff nd)⟩
  have z : σ.set i (some v) = σ := by
    apply List.ext_getElem?
    intro j
    by_cases hj : i = j
    · subst hj
      obtain ⟨hlt, hv⟩ := List.getElem?_eq_some_iff.mp e1
      rw [List.getElem?_set_self hlt, e1]
    · rw [List.getElem?_set_ne hj]
  rw [z, List.append_nil] at q
  exact ⟨_, plus F Li, sm, fun _ _ _ _ _ _ z => z.elim, L1 ++ L2, kb.freeze fun p _ z => (nomatch z), q⟩
theorem w_borrow {od0 : @OD α d} {x : α} {pin : Option V} [m : @Imm β d2] {kx : β → Prop} (i : Nat) (hi : Γ[i]? = some (.own d od0 pin x)) (h : W (calm Y.g) te (Γ.set i (.val d x)) d2 kx) : W Y te Γ d2 kx := fun e F σ H s Q q => by
  obtain ⟨e', F1, sm, s1⟩ := s.frzM hi
  refine h e' F1 σ H s1 Q fun v F' H' y ky g r => ?_
  have g3 := fresh_gr s.base g
  exact q v _ H' y ky g3 (m.imm (fun a xs h => g3.tp a xs (g.fh _ _ h)) r)
/-- the script, as the law takes it -/
theorem Fn.script {K : PySem.W.Frag} {P : Program} {w : World} {H : Hp} {a : Addr} {ns : List Int} (hS : SqL K H a (ns.map V.int)) : Fn ⟨P, w, K⟩ [.val (dSq (d := dInt)) ⟨ns⟩] (fun c => c = cv true) [.ref a] H (fun v _ => v = .bl true) :=
  ⟨H, ⟨Same.refl _, fun _ _ _ h => h, fun _ h => h, Same.refl _, fun _ _ h => h, fun _ _ h => h, fun _ h => (nomatch h), List.nodup_nil⟩, Slots.cons (L := []) ⟨rfl, .ref a, rfl, a, _, rfl, .inl hS, Reps.ofInts ns⟩ .nil, fun v F' H' c L e _ ok => by
    subst e
    obtain ⟨_, v', e', r⟩ := ok
    cases (Option.some.inj e')
    exact r⟩
end
end G

/-! G8: stores into dicts, slices, items that change their list, lists picked out of owned lists. -/
namespace G
open PySem L2
section
variable {C : GCtx} {Y : YC} {Γ : List Cell} {te ta tb tc tk tv : TE} {t u tt : TT} {α β γ δ : Type} {d1 : Dat α} {d : Dat α} {d2 : Dat β} {k : Ks} {t1 t2 ts : TS} {g : TG}
/-! d[k] = v -/
theorem KReps.map_put {F : Hp} {v : V} {x : α} {n : Int} (hv : d.rep C F v x) : ∀ {ps : List (Key × V)} {xs : List (Int × α)}, KReps d C F ps xs → KReps d C F (ps.map fun kv => if kv.1 = Sum.inl n then (kv.1, v) else kv) (xs.map fun p => if p.1 = n then (n, x) else p)
  | [], [], _ => trivial
  | p :: ps, y :: ys, h => by
    rw [List.map_cons, List.map_cons]
    by_cases hn : y.1 = n
    · rw [if_pos hn, if_pos (by rw [h.1, hn])]
      exact ⟨by show p.1 = Sum.inl n; rw [h.1, hn], hv, KReps.map_put hv h.2.2⟩
    · rw [if_neg hn, if_neg (by rw [h.1]; exact fun z => hn (Sum.inl.inj z))]
      exact ⟨h.1, h.2.1, KReps.map_put hv h.2.2⟩
  | [], _ :: _, h => h.elim
  | _ :: _, [], h => h.elim
theorem KReps.snoc {F : Hp} {v : V} {x : α} {n : Int} (hv : d.rep C F v x) : ∀ {ps : List (Key × V)} {xs : List (Int × α)}, KReps d C F ps xs → KReps d C F (ps ++ [(Sum.inl n, v)]) (xs ++ [(n, x)])
  | [], [], _ => ⟨rfl, hv, trivial⟩
  | _ :: _, _ :: _, h => ⟨h.1, h.2.1, KReps.snoc hv h.2.2⟩
  | [], _ :: _, h => h.elim
  | _ :: _, [], h => h.elim
theorem KReps.put {F : Hp} {ps : List (Key × V)} {xs : List (Int × α)} {v : V} {x : α} {n : Int} (h : KReps d C F ps xs) (hv : d.rep C F v x) : KReps d C F (putK ps (Sum.inl n) v) (putI xs n x) := by
  unfold putK putI
  have l := h.look n
  rw [valV_any]
  cases q : xs.lookup n with
  | none =>
    rw [l.2 q, if_neg (fun z => (nomatch z)), if_neg (fun z => (nomatch z))]
    exact h.snoc hv
  | some y =>
    obtain ⟨w, hw, _⟩ := l.1 y q
    rw [hw]
    exact h.map_put hv
theorem lookup_map_put {β : Type} (n j : Int) (x : β) : ∀ kv : List (Int × β), (kv.map fun p => if p.1 = n then (n, x) else p).lookup j = if j = n then (kv.lookup n).map (fun _ => x) else kv.lookup j
  | [] => by simp
  | p :: kv => by
    rw [List.map_cons, lookup_cons', lookup_map_put n j x kv, lookup_cons', lookup_cons']
    by_cases hn : p.1 = n
    · rw [if_pos hn]
      by_cases hj : j = n
      · rw [if_pos hj.symm, if_pos hj, if_pos hn]; rfl
      · rw [if_neg (fun z => hj z.symm), if_neg hj, if_neg hj, if_neg (fun z => hj (z.symm.trans hn))]
    · rw [if_neg hn]
      by_cases hj : j = n
      · rw [if_neg (fun z => hn (z.trans hj)), if_pos hj, if_pos hj, if_neg hn]
      · rw [if_neg hj, if_neg hj]
theorem lookup_putI {β : Type} (kv : List (Int × β)) (n j : Int) (x : β) : (putI kv n x).lookup j = if j = n then some x else kv.lookup j := by
  unfold putI
  cases q : kv.lookup n with
  | some y =>
    show (kv.map fun p => if p.1 = n then (n, x) else p).lookup j = _
    rw [lookup_map_put, q]; rfl
  | none =>
    rw [if_neg (fun z => (nomatch z))]
    have : ∀ kv : List (Int × β), kv.lookup n = none → (kv ++ [(n, x)]).lookup j = if j = n then some x else kv.lookup j := by
      intro kv
      induction kv with
      | nil =>
        intro _
        rw [List.nil_append, lookup_cons']
        by_cases hj : j = n
        · rw [if_pos hj.symm, if_pos hj]
        · rw [if_neg (fun z => hj z.symm), if_neg hj]
      | cons p kv ih =>
        intro hq
        rw [lookup_cons'] at hq
        by_cases hp : p.1 = n
        · rw [if_pos hp] at hq; cases hq
        · rw [if_neg hp] at hq
          rw [List.cons_append, lookup_cons', ih hq, lookup_cons']
          by_cases hj : j = n
          · rw [if_neg (fun z => hp (z.trans hj)), if_pos hj, if_pos hj]
          · rw [if_neg hj, if_neg hj]
    exact this kv q
theorem o_dict0 {kx : DI α → Prop} (h : kx ⟨[]⟩) : O Y tDNewK Γ (oDI (d := d)) kx := fun e F σ H s Q q => fun p hp =>
  q _ F _ _ _ h (s.base.own hp (fun _ z => by cases z)) ⟨p, [], rfl, rfl, trivial⟩
theorem z_dput {pin : Option V} {i : Nat} {x : DI α} (hi : Γ[i]? = some (.own (dDI (d := d)) (oDI (d := d)) pin x)) (h : W Y tv Γ d fun y => R Y tk Γ dInt fun n => x.kv.length < PySem.sizeLine ∧ k.nx (Γ.set i (.own (dDI (d := d)) (oDI (d := d)) pin ⟨putI x.kv n y⟩))) :
    Z Y (sDPut (tVar i) tk tv) Γ k := fun e F σ H D hM s c => h e F σ H s _ fun w F1 H1 y hy g1 r1 => by
  obtain ⟨v0, e1, r0⟩ := (s.grow g1).own hi
  refine ⟨v0, e1, hy e F1 σ H1 (s.grow g1) _ fun v2 F2 H2 n ⟨hl, kn⟩ g2 r2 => ?_⟩
  cases (show v2 = .int n from r2)
  obtain ⟨v, Li, rest, e2, ⟨a, ps, rfl, rfl, r⟩, kw, f⟩ := ((s.grow g1).grow g2).mut hi
  rw [e1] at e2
  cases (Option.some.inj e2)
  have ha : H2 a = some (.dK ps) := (kw.ow (a, .dK ps) (by simp)).2.1
  refine ⟨a, _, rfl, DPut.k (k := Sum.inl n) ha (by rw [r.len]; exact hl), ?_⟩
  exact c.nx F2 σ _ _ kn (f F2 _ [(a, .dK (putK ps (Sum.inl n) w))] ⟨putI x.kv n y⟩ (Same.refl F2) (kw.put (fun _ z => by cases z)) ⟨a, _, rfl, rfl, r.put (d.mono g2.ff r1)⟩)

/-! slices -/
def cutL {α : Type} (xs : List α) (lo hi : Option Int) : List α := (xs.drop (HT.sIx xs.length 0 lo)).take (HT.sIx xs.length xs.length hi - HT.sIx xs.length 0 lo)
theorem cut_rep {F : Hp} {vs : List V} {xs : List α} (r : Reps d C F vs xs) (lo hi : Option Int) : Reps d C F (cutV vs lo hi) (cutL xs lo hi) := by
  unfold cutV cutL
  rw [r.len]
  exact (r.drop _).take _
/-- a part of a slice -/
def TOk (Y : YC) (to : TO) (Γ : List Cell) (k : Option Int → Prop) : Prop := ∀ (e : En) (F : Hp) (σ : St) (H : Hp), State Y e F σ H Γ → ∀ Q : Option Int → Hp → Prop, (∀ o F' H', k o → Gr F H F' H' → Q o H') → to σ H Q
theorem to_none {kx : Option Int → Prop} (h : kx none) : TOk Y tNoPart Γ kx := fun e F σ H s Q q => q none F H h s.base
theorem to_some {kx : Option Int → Prop} (h : R Y te Γ dInt fun n => kx (some n)) : TOk Y (tPart te) Γ kx := fun e F σ H s Q q => h e F σ H s _ fun v F' H' n kn g r => ⟨n, r, q (some n) F' H' kn g⟩
theorem o_sl {tl th : TO} {kx : List α → Prop} (h : W Y te Γ (dList (d := d)) fun xs => TOk Y tl Γ fun lo => TOk Y th Γ fun hi => kx (cutL xs lo hi)) : O Y (tSl (rSlL Y.K) te tl th) Γ (oList (d := d)) kx := fun e F σ H s Q q => h e F σ H s _ fun v F1 H1 xs h1 g1 ⟨a, vs, e1, hq, r⟩ => by
  subst e1
  refine h1 e F1 σ H1 (s.grow g1) _ fun lo F2 H2 h2 g2 => h2 e F2 σ H2 ((s.grow g1).grow g2) _ fun hi F3 H3 h3 g3 => ⟨a, vs, rfl, ?_, fun p hp => ?_⟩
  · exact (g1.fh.trans (g2.hh0.trans g3.hh0)).seq hq
  · obtain ⟨h4, h5⟩ := o_new (L := []) g3.base hp (cut_rep (r.mono (g2.ff.trans g3.ff)) lo hi)
    have g4 := ((g1.trans0 g2).trans0 g3).trans h4
    exact q _ F3 _ _ _ h3 (by simpa using g4) h5

/-! xs.append(ys.pop(i)) -/
theorem Reps.erase {F : Hp} : ∀ {vs : List V} {xs : List α} (i : Nat), Reps d C F vs xs → Reps d C F (vs.eraseIdx i) (xs.eraseIdx i)
  | [], [], _, _ => by simp [Reps]
  | _ :: _, _ :: _, 0, h => h.2
  | _ :: _, _ :: _, i + 1, h => ⟨h.1, Reps.erase i h.2⟩
  | [], _ :: _, _, h => h.elim
  | _ :: _, [], _, h => h.elim
/-! parts of what is owned -/
theorem Wk.sublist {e : En} {F : Hp} {L L' : LO} {H : Hp} (a : Wk e F L H) (h : L'.Sublist L) : Wk e F L' H :=
  a.sub (fun p hp => h.subset hp) ((h.map Prod.fst).nodup a.nd)
theorem Slots.wipe {F : Hp} {σ : St} {L : LO} (h : Slots C F σ Γ L) : ∀ vs : List Nat, ∃ L', L'.Sublist L ∧ Slots C F (wipe σ vs) (wipeC Γ vs) L'
  | [] => ⟨L, List.Sublist.refl _, h⟩
  | v :: vs => by
    obtain ⟨L1, h1, h2⟩ := Slots.wipe h vs
    unfold L2.wipe wipeC
    cases q : (wipeC Γ vs)[v]? with
    | some c =>
      obtain ⟨o, M1, Mi, M2, e1, e2, _, f⟩ := h2.get q
      refine ⟨M1 ++ M2, ?_, by simpa using f F none .no [] (Same.refl F) rfl⟩
      refine List.Sublist.trans ?_ h1
      rw [e2, List.append_assoc]
      exact List.Sublist.append_left (List.sublist_append_right _ _) _
    | none =>
      have l1 : (wipeC Γ vs).length ≤ v := List.getElem?_eq_none_iff.mp q
      have l2 : (L2.wipe σ vs).length ≤ v := by rw [h2.len]; exact l1
      rw [List.set_eq_of_length_le l1, List.set_eq_of_length_le l2]
      exact ⟨L1, h1, h2⟩
/-! [x for x in OWNED if t]: the owned items that are picked -/
/-! for x in OWNED: x.append(n) -/
end
end G

/-! E1: super().__init__('..') within the __init__ of an own exception class. -/
namespace G
open PySem PySem.Spec PyProof.Rows L2 PySem.W
theorem super_init {X : Cx} {pins : List (Addr × Obj)} {σ : L2.St} {H : Hp} {s : Shared} {Q : Flow → Shared → Prop} {E : Value → Shared → Prop} {body : List Stmt} {f cc cda D a C : Addr} {fd : FuncData} {ar : Arg} {vs : Array Value} {file : Str} {tf : Tok}
    {oc ccl cl : Value} {od cdd cld : Option Addr} {osl ccs csl : Array (Option Value)} {cdD cdC : ClassData} {m : Str} {j : Nat} {p0 p1 p2 p3 p4 p5 : Pos} {pl : Sem Bool}
    (I : Inv X pins σ H s) (hfun : X.env.func = some f) (hcode : X.env.code = .ref cda) (hks : X.env.kindOf "super" = some .globalImplicit) (hkc : X.env.kindOf "__class__" = some .free) (hcl : X.env.cells.lookup ("__class__" : Str) = some cc)
    (kf : X.K.lookup f = some ⟨oc, od, .func fd, osl⟩) (hp : (fd.params.posonlyargs ++ fd.params.args).head? = some ar) (hN : X.N[0]? = some ar.arg) (hl : X.env.kindOf ar.arg = some .local) (h0 : σ[0]? = some (some (.ref a)))
    (kcell : X.K.lookup cc = some ⟨cl, cld, .cell (some (.ref D)), csl⟩) (kcode : X.K.lookup cda = some ⟨ccl, cdd, .fields vs, ccs⟩) (hvs : vs[2]? = some (.str file tf)) (hfile : ((X.prog.main.file : Str) == file) = true)
    (kD : clsIn X.K D = some cdD) (kC : clsIn X.K C = some cdC) (hsub : mroIn X.K C (.ref D) = some true) (hsup : X.mg "super" = none) (htop : (X.prog.main.scope.names.lookup ("super" : Str)).isSome = false)
    (hst : nsIn X.K cStatics "thirdparty.any" = some none) (hin : ks_superIn X.K C D "__init__" = some (some (.builtin "ValueError.__init__"))) (hB : subIn X.K (.ref C) (.type "ValueError") = some true)
    (T : OexC X.K C) (ea : H a = some (exo a C none)) (hq : ∀ s', Inv X pins σ H s' → Q .next s')
    (he : eval (.Call (.Attribute (.Call (.Name "super" p0) [] [] p1) "__init__" p2) [.Constant (.str m) j p3] [] p4) X.env = (do
      let ov ← attributeBase (.Call (.Name "super" p0) [] [] p1) "__init__" X.env (eval (.Call (.Name "super" p0) [] [] p1) X.env)
      standAt p2.atName
      let (f, first) ← holding [ov] (getMethod ov "__init__" pl)
      callWith p4 f first (backTo p4 (starEach [.Constant (.str m) j p3] X.env)) [])) :
    _root_.PySem.wpAt (model X.prog X.w) X.A (.func body X.env) (exec (.Expr (.Call (.Attribute (.Call (.Name "super" p0) [] [] p1) "__init__" p2) [.Constant (.str m) j p3] [] p4) p5) X.env) Q E s := by
  obtain ⟨nm, q, N, bs, bm, sn, sub, ab, col, dd, k0, k1, k2, k3, k5, hC, hbm⟩ := T.cls
  obtain ⟨t1, ho⟩ := exo_at I.hok ea
  refine ks_wpAt_Expr_any (hs := ?hs) ?hm I.quiet
  case hs => rfl
  refine ks_wpAt_MethodCall (he := he) ?_
  refine ks_wpAt_super_base hks hkc rfl hfun (I.kIn _ _ kf) rfl hp hcode (I.kIn _ _ kcode) rfl hvs hfile htop ?_
  obtain ⟨mb, b1, b2⟩ := I.mod.blt
  refine ks_loadName_global I.ok.kind hks (Calls.loadGlobal_builtin (by rw [I.ok.glob]; exact I.mod.glob.keeps I.bk) hsup (by rw [I.ok.blt]; exact b1.keeps I.bk) ((b2 _ (by decide)).trans (PyProof.Rows.Boot.«super»)) ⟨rfl, ?_⟩)
  refine wpAny_loadName_free I.ok.kind hkc hcl ⟨_, I.kIn _ _ kcell, rfl⟩ ?_
  obtain ⟨mm, hn, hlk⟩ := I.loc
  obtain ⟨u0, ru, lk⟩ := hlk 0 ar.arg (.ref a) hN h0 (.inl hl)
  obtain rfl : u0 = Value.ref a := ru
  have hm0 : mm ar.arg = some (.ref a) := by
    rcases lk with ⟨_, h⟩ | ⟨h, _⟩
    · exact h
    · rw [hl] at h; rcases h with h | h <;> cases h
  refine wpAny_loadName_local I.ok.kind hl hn hm0 ?_
  obtain ⟨oD, hD1, hD2⟩ : ∃ oD, s.heap.get? D = some oD ∧ oD.data = .cls cdD := by
    unfold clsIn at kD
    split at kD
    · rename_i c d cd' sl hoD
      cases kD
      exact ⟨_, I.kIn _ _ hoD, rfl⟩
    · cases kD
  refine ks_wpAny_isType_cls hD1 hD2 ⟨rfl, ?_⟩
  have hty : Looks (model X.prog X.w) s.heap (typeOf (.ref a)) (.ref C) := (InstAt.mk (ox := ({ cls := .ref C, dict := none, data := .fields #[.ref t1, .none, .none, .none, .bool false, .none] } : Obj)) (od := none) ho rfl rfl trivial).type
  obtain ⟨hh, g, d, t, os⟩ := s
  refine ks_wpAny_call_super hD1 hD2 ho rfl (fun c e => by cases e) (looks_mroIn I.kIn hsub) (fun h' e k => ?_)
  have I1 : Inv X pins σ H ⟨h', g, d, t, os⟩ := I.kept (t' := t) k
  have hI : Looks (model X.prog X.w) h' (isInstance (.ref a) (.type "ValueError")) true := (hty.keeps k).andThen (looks_subIn I1.kIn hB)
  have hne : a ≠ C := fun z => by
    have h1 := I.kIn _ _ hC
    rw [← z, show (Shared.heap ⟨hh, g, d, t, os⟩).get? a = _ from ho] at h1
    cases h1
  have hmr : Looks (model X.prog X.w) h' (mroOf (.ref C)) cdC.mro := fun A Q E s k q => wpAny_bind ((looks_clsIn I1.kIn kC) A _ E s k (wpAny_pure q))
  have hin' : alongIn X.K "__init__" ((cdC.mro.dropWhile (· != .ref D)).drop 1) = some (some (.builtin "ValueError.__init__")) := by
    unfold ks_superIn at hin
    rw [kC] at hin
    exact hin
  refine kxs_getMethod kxs_ValueError e (looks_opaque I1.kIn hst) (l₀ := cdC.mro) hmr rfl I1.kIn hin' hI hne rfl ?_
  have hu : (h'.push (kxs_mw "ValueError.__init__" a)).get? h'.objs.size = some (kxs_mw "ValueError.__init__" a) := Heap.get?_push_at rfl rfl
  have I2 : Inv X pins σ H ⟨h'.push (kxs_mw "ValueError.__init__" a), g, d, t + 1, os⟩ := I1.kept (t' := t + 1) fun b o e => Heap.get?_push_of_some _ e
  refine kxs_callWith (i := "ValueError.__init__") (x := a) rfl ?_
  show wpAny _ _ (evalArgs _ true ((false, eval (.Constant (.str m) j p3) X.env) :: []) []) _ _ _
  refine Calls.evalArgs_plain (Calls.spliced_cons (Calls.Constant_str (Calls.spliced_nil ⟨hu, ?_⟩)))
  have I3 : Inv X pins σ H ⟨h'.push (kxs_mw "ValueError.__init__" a), g, d, t + 1 + 1, os⟩ := I2.kept (t' := t + 1 + 1) fun b o e => e
  obtain ⟨t2, ho2⟩ := exo_at I3.hok ea
  show wpAny _ _ (call (.ref h'.objs.size) [.str m (t + 1)]) _ _ _
  refine wpAny_call (codeAny_of_tree ?_)
  show wpAny _ X.A.in1 (callAny (.ref h'.objs.size) ⟨[.str m (t + 1)], []⟩) _ _ _
  simp only [callAny]
  refine wpAny_bind (wpAny_load hu ?_)
  simp only [kxs_mw, show (Value.type "method-wrapper" == Value.type "method" || Value.type "method-wrapper" == Value.type "builtin_function_or_method" || Value.type "method-wrapper" == Value.type "method-wrapper") = true by decide, if_true]
  refine KFB.if_so (by decide) ?_
  refine wpAny_bind (check_bound_init F.excBase_ValueError.toExcCallFacts (I3.kIn _ _ hC) ho2 rfl ?_)
  refine wpAny_bind (wpAny_pure (wpAny_pure ?_))
  refine ⟨plainId_quiet F.excBase_ValueError.init.plain _, codeAny_builtin F.excBase_ValueError.initEntry ?_⟩
  refine exc_init_tree (cls := .ref C) (t0 := t2) (dv := none) (c2 := .none) (c3 := .none) (b4 := .bool false) ho2 (by show 1 ≤ sizeLine; rw [sizeLine_eq]; omega) fun h3 k3 e3 e4 => ?_
  have J := I3.write (t' := t + 1 + 1) (x := a) (e := a) (o := exo a C none) (by rw [ea]; exact True.intro) (.inl rfl) k3 ⟨_, e3⟩ (exo_ok e3)
  have eu : upd H a (exo a C none) = H := by
    funext b
    by_cases hb : b = a
    · rw [hb, upd_same, ea]
    · rw [upd_ne hb]
  rw [eu] at J
  exact hq _ J

/-- a class's __init__ that begins with super().__init__('..'): the rest of its body -/
theorem fok_super {P : Program} {w : World} {K : Frag} {mg : Str → Option Value} {base : Heap} {CXt : CXT} {k : Nat} {f cc D : Addr} {N ps : List Str} {F : NdefX.NF} {doc pm ctv : Value} {sp : Sp} {rest : List Stmt} {ar : Arg} {vs0 : Array Value} {file : Str} {tf : Tok}
    {oc ccl cl : Value} {od cdd cld : Option Addr} {osl ccs csl : Array (Option Value)} {cdD : ClassData} {m : Str} {j : Nat} {p0 p1 p2 p3 p4 p5 : Pos} {pl : Sem Bool}
    (S : NdefX.NScope N ps ["__class__"] F.scope) (hF : F.cl = [(("__class__" : Str), cc)]) (hb : F.body = .Expr (.Call (.Attribute (.Call (.Name "super" p0) [] [] p1) "__init__" p2) [.Constant (.str m) j p3] [] p4) p5 :: rest)
    (hks : F.scope.names.lookup ("super" : Str) = some .globalImplicit) (kf : K.lookup f = some ⟨oc, od, .func (F.fd doc pm ctv), osl⟩) (hp : (F.params.posonlyargs ++ F.params.args).head? = some ar) (hN : N[0]? = some ar.arg) (hl : F.scope.names.lookup ar.arg = some .local)
    (kcell : K.lookup cc = some ⟨cl, cld, .cell (some (.ref D)), csl⟩) (kcode : K.lookup F.c = some ⟨ccl, cdd, .fields vs0, ccs⟩) (hvs : vs0[2]? = some (.str file tf)) (hcd : codeIn K (.ref F.c) F.qual = true) (hfile : ((P.main.file : Str) == file) = true)
    (kD : clsIn K D = some cdD) (hsup : mg "super" = none) (htop : (P.main.scope.names.lookup ("super" : Str)).isSome = false) (hst : nsIn K cStatics "thirdparty.any" = some none)
    (he : ∀ env : Env, eval (.Call (.Attribute (.Call (.Name "super" p0) [] [] p1) "__init__" p2) [.Constant (.str m) j p3] [] p4) env = (do
      let ov ← attributeBase (.Call (.Name "super" p0) [] [] p1) "__init__" env (eval (.Call (.Name "super" p0) [] [] p1) env)
      standAt p2.atName
      let (f, first) ← holding [ov] (getMethod ov "__init__" pl)
      callWith p4 f first (backTo p4 (starEach [.Constant (.str m) j p3] env)) []))
    (len : ∀ vs H Q E, sp vs H Q E → vs.length = ps.length)
    (walk : ∀ (A : Around) (outer : List Env) (s : Shared) (H : Hp) (vs : List V) (Q : VK) (E : XK), Room k (A.deeper (NdefX.envF F f s.heap.objs.size)) → sp vs H Q E →
      ∃ a C cdC, vs[0]? = some (.ref a) ∧ H a = some (exo a C none) ∧ OexC K C ∧ clsIn K C = some cdC ∧ mroIn K C (.ref D) = some true ∧ ks_superIn K C D "__init__" = some (some (.builtin "ValueError.__init__")) ∧ subIn K (.ref C) (.type "ValueError") = some true ∧
        ∃ t, PSs (NdefX.ncx CXt P w K mg base N F f A outer s H E) rest t ∧ t { nx := fun _ H' => Q .non H', rt := Q } (NdefX.startF N vs [some (.ref D)]) H) :
    FnOk P w K mg base CXt (k + 1) f (F.fd doc pm ctv) ps sp := by
  refine ⟨len, fun A outer s H args us vs Q E hr e0 hbind r hsp => ?_⟩
  have hlen := len _ _ _ _ hsp
  have kin : K.In s.heap := fun a o e => (e0.bs a o (e0.mod.kin a o e)).1
  have lim : s.heap.NoLimit := e0.mod.nolimit.keeps fun b o e => (e0.bs b o e).1
  have hc0 : H cc = none := (e0.bs cc _ (e0.mod.kin _ _ kcell)).2
  have cls1 : ∀ y c, F.cl.lookup y = some c → y = ("__class__" : Str) ∧ c = cc := fun y c e => by
    rw [hF, List.lookup_cons] at e
    split at e
    · rename_i z
      cases e
      exact ⟨by simpa using z, rfl⟩
    · cases e
  have C0 : NdefX.CellsAt F.cl ["__class__"] [some (.ref D)] s.heap H := by
    refine ⟨rfl, fun y c e => ?_, fun x y c e1 e2 => ?_, fun i y e => ?_⟩
    · obtain ⟨_, rfl⟩ := cls1 y c e
      exact ⟨hc0, _, _, kin _ _ kcell, rfl⟩
    · rw [(cls1 x c e1).1, (cls1 y c e2).1]
    · cases i with
      | zero =>
        cases (Option.some.inj e)
        refine ⟨cc, by rw [hF]; rfl, fun v hv => ?_⟩
        cases hv
        exact ⟨.ref D, rfl, _, kin _ _ kcell, rfl⟩
      | succ i => cases e
  refine ks_codeAny_call_defAt (fd := F.fd doc pm ctv) hr.depth (kin _ _ kf) rfl lim (codeRec_of kin hcd) rfl hbind S.nocell (fun ⟨n, _⟩ hy => S.par n (List.of_mem_zip hy).1) (fun h₁ hns kp => ?_) S.co S.gen S.kind
  obtain ⟨a, C, cdC, v0, ea, T, kC, hsub, hin, hB, t, ht, hq⟩ := walk A outer s H vs Q E (hr.deeper _) hsp
  have I : Inv (NdefX.ncx CXt P w K mg base N F f A outer s H E) [] (NdefX.startF N vs [some (.ref D)]) H { s with heap := h₁, toks := s.toks + (ps.zip us).length } := NdefX.inv_startN S hr.hd e0 hlen r C0 hns kp
  have h0 : (NdefX.startF N vs [some (V.ref D)])[0]? = some (some (.ref a)) := by
    unfold NdefX.startF
    have : 0 < vs.length := (List.getElem?_eq_some_iff.mp v0).1
    rw [List.getElem?_append_left (by rw [List.length_map]; exact this), List.getElem?_map, v0]
    rfl
  show _root_.PySem.wpAt (model P w) (A.deeper (NdefX.envF F f s.heap.objs.size)) (.func F.body (NdefX.envF F f s.heap.objs.size)) (execs F.body (NdefX.envF F f s.heap.objs.size)) _ _ _
  have fin : ∀ {s' : Shared} {σ' : L2.St} {H' : Hp} {v : V} {u : Value}, Inv (NdefX.ncx CXt P w K mg base N F f A outer s H E) [] σ' H' s' → L2.RelV v u → Q v H' → CE outer P w H s Q u s' :=
    fun {s' σ' H' v u} J rv q => ⟨v, H', J.os, J.bare, J.base, J.hok, rv, q⟩
  rw [show execs F.body (NdefX.envF F f s.heap.objs.size) = execs (_ :: rest) (NdefX.envF F f s.heap.objs.size) from congrArg (fun b => execs b _) hb]
  refine ks_wpAt_execs_cons ?_
  refine super_init (X := NdefX.ncx CXt P w K mg base N F f A outer s H E) (a := a) (C := C) I rfl rfl hks (S.frk _ (by simp)) (by show F.cl.lookup _ = _; rw [hF]; rfl) kf hp hN hl h0 kcell kcode hvs hfile kD kC hsub hsup htop hst hin hB T ea (fun s' I' => ?_) (he _)
  refine _root_.PySem.wpAt_of_wpAny (wpAny_mono (ht.run [] _ _ H _ I' hq) (fun fl s' hs => ?_) fun e s' hs => hs)
  cases fl with
  | ret u =>
    obtain ⟨v, σ', H', J, rv, q⟩ := hs
    exact fin J rv q
  | next =>
    obtain ⟨σ', H', J, q⟩ := hs
    exact fin (v := V.non) (u := Value.none) J rfl q
  | brk =>
    obtain ⟨_, _, _, q⟩ := hs
    exact False.elim q
  | cont =>
    obtain ⟨_, _, _, q⟩ := hs
    exact False.elim q
end G

/-! E2: exceptions of one and of two attributes: their __init__, raising them. -/
namespace G
open PySem PySem.Spec PyProof.Rows L2 PySem.W
/-- what __init__ of one attribute promises -/
def spX1 (C : Addr) (f1 : Str) : Sp := fun vs H Q _ => ∃ a v, vs = [.ref a, v] ∧ H a = some (exo a C none) ∧ ∀ d, H d = none → d ≠ a → Q .non (upd (upd H d (exd d [(f1, v)])) a (exo a C (some d)))
def spX2 (C : Addr) (f1 f2 : Str) : Sp := fun vs H Q _ => ∃ a v1 v2, vs = [.ref a, v1, v2] ∧ H a = some (exo a C none) ∧ ∀ d, H d = none → d ≠ a → Q .non (upd (upd (upd H d (exd d [(f1, v1)])) a (exo a C (some d))) d (exd d [(f2, v2), (f1, v1)]))
/-- what the written part says of such a class -/
structure XCls (K : Frag) (D fI : Addr) : Prop where
  T : OexC K D
  cls : ∃ cd, clsIn K D = some cd
  self : mroIn K D (.ref D) = some true
  sup : ks_superIn K D D "__init__" = some (some (.builtin "ValueError.__init__"))
  ve : subIn K (.ref D) (.type "ValueError") = some true
  init : findIn K (.ref D) "__init__" = some (some (.ref fI))
  fn : typeIn K (.ref fI) = some (.type "function")
section
variable {P : Program} {w : World} {K : Frag} {mg : Str → Option Value} {base : Heap} {CXt : CXT} {k : Nat} {f cc D : Addr} {ps : List Str} {F : NdefX.NF} {doc pm ctv : Value} {ar : Arg} {vs0 : Array Value} {file : Str} {tf : Tok}
    {oc ccl cl : Value} {od cdd cld : Option Addr} {osl ccs csl : Array (Option Value)} {m : Str} {j : Nat} {p0 p1 p2 p3 p4 p5 q1 q2 q3 q4 r1 r2 r3 r4 : Pos} {pl : Sem Bool} {f1 f2 x1 x2 : Str}
theorem fok_exc1 (S : NdefX.NScope [ar.arg, x1, "__class__"] [ar.arg, x1] ["__class__"] F.scope) (hF : F.cl = [(("__class__" : Str), cc)])
    (hb : F.body = [.Expr (.Call (.Attribute (.Call (.Name "super" p0) [] [] p1) "__init__" p2) [.Constant (.str m) j p3] [] p4) p5, .Assign [.Attribute (.Name ar.arg q1) f1 q2] (.Name x1 q3) q4])
    (hd1 : (ar.arg == ("__debug__" : Str)) = false) (hc1 : (ar.arg == ("__classdict__" : Str)) = false) (hd2 : (x1 == ("__debug__" : Str)) = false) (hc2 : (x1 == ("__classdict__" : Str)) = false)
    (hks : F.scope.names.lookup ("super" : Str) = some .globalImplicit) (kf : K.lookup f = some ⟨oc, od, .func (F.fd doc pm ctv), osl⟩) (hp : (F.params.posonlyargs ++ F.params.args).head? = some ar)
    (kcell : K.lookup cc = some ⟨cl, cld, .cell (some (.ref D)), csl⟩) (kcode : K.lookup F.c = some ⟨ccl, cdd, .fields vs0, ccs⟩) (hvs : vs0[2]? = some (.str file tf)) (hcd : codeIn K (.ref F.c) F.qual = true) (hfile : ((P.main.file : Str) == file) = true)
    (X : XCls K D f) (hno : findIn K (.ref D) f1 = some none) (hsup : mg "super" = none) (htop : (P.main.scope.names.lookup ("super" : Str)).isSome = false) (hst : nsIn K cStatics "thirdparty.any" = some none)
    (he : ∀ env : Env, eval (.Call (.Attribute (.Call (.Name "super" p0) [] [] p1) "__init__" p2) [.Constant (.str m) j p3] [] p4) env = (do
      let ov ← attributeBase (.Call (.Name "super" p0) [] [] p1) "__init__" env (eval (.Call (.Name "super" p0) [] [] p1) env)
      standAt p2.atName
      let (f, first) ← holding [ov] (getMethod ov "__init__" pl)
      callWith p4 f first (backTo p4 (starEach [.Constant (.str m) j p3] env)) [])) :
    FnOk P w K mg base CXt (k + 1) f (F.fd doc pm ctv) [ar.arg, x1] (spX1 D f1) := by
  obtain ⟨cdD, kD⟩ := X.cls
  refine fok_super (N := [ar.arg, x1, "__class__"]) (rest := _) S hF hb hks kf hp rfl (S.par _ (by simp)) kcell kcode hvs hcd hfile kD hsup htop hst he (fun vs H Q E ⟨a, v, e, _⟩ => by rw [e]; rfl) (fun A outer s H vs Q E hr ⟨a, v, e, ea, q⟩ => ?_)
  subst e
  refine ⟨a, D, cdD, rfl, ea, X.T, kD, X.self, X.sup, X.ve, _, pss_one (ps_ost (pe_var (i := 0) rfl (.inl (S.par _ (by simp))) hd1 hc1) (pe_var (i := 1) rfl (.inl (S.par _ (by simp))) hd2 hc2) rfl), ?_⟩
  exact ⟨v, rfl, .ref a, rfl, a, D, rfl, X.T, hno, .inl ⟨ea, fun dx n ne => q dx n ne⟩⟩
theorem fok_exc2 (S : NdefX.NScope [ar.arg, x1, x2, "__class__"] [ar.arg, x1, x2] ["__class__"] F.scope) (hF : F.cl = [(("__class__" : Str), cc)])
    (hb : F.body = [.Expr (.Call (.Attribute (.Call (.Name "super" p0) [] [] p1) "__init__" p2) [.Constant (.str m) j p3] [] p4) p5, .Assign [.Attribute (.Name ar.arg q1) f1 q2] (.Name x1 q3) q4, .Assign [.Attribute (.Name ar.arg r1) f2 r2] (.Name x2 r3) r4])
    (hd1 : (ar.arg == ("__debug__" : Str)) = false) (hc1 : (ar.arg == ("__classdict__" : Str)) = false) (hd2 : (x1 == ("__debug__" : Str)) = false) (hc2 : (x1 == ("__classdict__" : Str)) = false) (hd3 : (x2 == ("__debug__" : Str)) = false) (hc3 : (x2 == ("__classdict__" : Str)) = false)
    (hks : F.scope.names.lookup ("super" : Str) = some .globalImplicit) (kf : K.lookup f = some ⟨oc, od, .func (F.fd doc pm ctv), osl⟩) (hp : (F.params.posonlyargs ++ F.params.args).head? = some ar)
    (kcell : K.lookup cc = some ⟨cl, cld, .cell (some (.ref D)), csl⟩) (kcode : K.lookup F.c = some ⟨ccl, cdd, .fields vs0, ccs⟩) (hvs : vs0[2]? = some (.str file tf)) (hcd : codeIn K (.ref F.c) F.qual = true) (hfile : ((P.main.file : Str) == file) = true)
    (X : XCls K D f) (hno : findIn K (.ref D) f1 = some none) (hno2 : findIn K (.ref D) f2 = some none) (hsup : mg "super" = none) (htop : (P.main.scope.names.lookup ("super" : Str)).isSome = false) (hst : nsIn K cStatics "thirdparty.any" = some none)
    (he : ∀ env : Env, eval (.Call (.Attribute (.Call (.Name "super" p0) [] [] p1) "__init__" p2) [.Constant (.str m) j p3] [] p4) env = (do
      let ov ← attributeBase (.Call (.Name "super" p0) [] [] p1) "__init__" env (eval (.Call (.Name "super" p0) [] [] p1) env)
      standAt p2.atName
      let (f, first) ← holding [ov] (getMethod ov "__init__" pl)
      callWith p4 f first (backTo p4 (starEach [.Constant (.str m) j p3] env)) [])) :
    FnOk P w K mg base CXt (k + 1) f (F.fd doc pm ctv) [ar.arg, x1, x2] (spX2 D f1 f2) := by
  obtain ⟨cdD, kD⟩ := X.cls
  refine fok_super (N := [ar.arg, x1, x2, "__class__"]) (rest := _) S hF hb hks kf hp rfl (S.par _ (by simp)) kcell kcode hvs hcd hfile kD hsup htop hst he (fun vs H Q E ⟨a, v1, v2, e, _⟩ => by rw [e]; rfl) (fun A outer s H vs Q E hr ⟨a, v1, v2, e, ea, q⟩ => ?_)
  subst e
  refine ⟨a, D, cdD, rfl, ea, X.T, kD, X.self, X.sup, X.ve, _, pss_cons (ps_ost (pe_var (i := 0) rfl (.inl (S.par _ (by simp))) hd1 hc1) (pe_var (i := 1) rfl (.inl (S.par _ (by simp))) hd2 hc2) rfl) (pss_one (ps_ost (pe_var (i := 0) rfl (.inl (S.par _ (by simp))) hd1 hc1) (pe_var (i := 2) rfl (.inl (S.par _ (by simp))) hd3 hc3) rfl)), ?_⟩
  refine ⟨v1, rfl, .ref a, rfl, a, D, rfl, X.T, hno, .inl ⟨ea, fun dx n ne => ?_⟩⟩
  refine ⟨v2, rfl, .ref a, rfl, a, D, rfl, X.T, hno2, .inr ⟨dx, [(f1, v1)], upd_same, ?_, by show 1 ≤ 900; omega, q dx n ne⟩⟩
  rw [upd_ne ne, upd_same]
end
/-! raising -/
section
variable {Y : YC} {Γ : List Cell} {k : Ks} {te t1 t2 : TE} {Cx : Addr} {f1 f2 : Str} {Wt : WX}
theorem z_raise1 (hE : Y.E = WE Wt) (h : R Y te Γ dInt fun n => Y.kx ⟨Cx, some [(f1, .int n)]⟩ Γ) : Z Y (fun _ σ H => tMkO Cx (spX1 Cx f1) [] (tCons te tNil) σ H fun cls d H' => Wt cls d σ H') Γ k := fun e F σ H D hM s c => h e F σ H s _ fun v F1 H1 n kn g r => by
  cases (show v = .int n from r)
  refine ⟨by show 1 ≤ 1000; omega, fun a ha => ⟨a, .int n, rfl, upd_same, fun d hd hda => ⟨rfl, d, [(f1, .int n)], upd_same, by rw [upd_ne hda, upd_same], ?_, ?_⟩⟩⟩
  · rw [upd_ne hda] at hd
    exact hd
  · rw [upd_ne hda] at hd
    have e1 : upd (del (upd (upd (upd H1 a (exo a Cx none)) d (exd d [(f1, .int n)])) a (exo a Cx (some d))) a) d (.xd [(f1, .int n)]) = upd H1 d (.xd [(f1, .int n)]) := by
      funext b
      by_cases hb : b = d
      · subst hb; rw [upd_same, upd_same]
      · rw [upd_ne hb, upd_ne hb]
        by_cases hb2 : b = a
        · subst hb2; rw [del_same, ha]
        · rw [del_ne hb2, upd_ne hb2, upd_ne hb, upd_ne hb2]
    rw [e1]
    have := s.1 ⟨Cx, some [(f1, .int n)]⟩ (some d) (upd F1 d (.xd [(f1, .int n)])) σ (upd H1 d (.xd [(f1, .int n)])) Γ kn ((s.grow g).grow (g.base.lay hd)).2 ⟨_, rfl, upd_same⟩
    rw [hE] at this
    exact this
theorem z_raise2 (hE : Y.E = WE Wt) (h : R Y t1 Γ dInt fun n1 => R Y t2 Γ dInt fun n2 => Y.kx ⟨Cx, some [(f2, .int n2), (f1, .int n1)]⟩ Γ) : Z Y (fun _ σ H => tMkO Cx (spX2 Cx f1 f2) [] (tCons t1 (tCons t2 tNil)) σ H fun cls d H' => Wt cls d σ H') Γ k := fun e F σ H D hM s c => h e F σ H s _ fun v F1 H1 n h2 g r => h2 e F1 σ H1 (s.grow g) _ fun v2 F2 H2 n2 kn g2 r2 => by
  cases (show v = .int n from r)
  cases (show v2 = .int n2 from r2)
  refine ⟨by show 2 ≤ 1000; omega, fun a ha => ⟨a, .int n, .int n2, rfl, upd_same, fun d hd hda => ⟨rfl, d, [(f2, .int n2), (f1, .int n)], ?_, upd_same, ?_, ?_⟩⟩⟩
  · rw [upd_ne (Ne.symm hda), upd_same]
  · rw [upd_ne hda] at hd
    exact hd
  · rw [upd_ne hda] at hd
    have e1 : upd (del (upd (upd (upd (upd H2 a (exo a Cx none)) d (exd d [(f1, .int n)])) a (exo a Cx (some d))) d (exd d [(f2, .int n2), (f1, .int n)])) a) d (.xd [(f2, .int n2), (f1, .int n)]) = upd H2 d (.xd [(f2, .int n2), (f1, .int n)]) := by
      funext b
      by_cases hb : b = d
      · subst hb; rw [upd_same, upd_same]
      · rw [upd_ne hb, upd_ne hb]
        by_cases hb2 : b = a
        · subst hb2; rw [del_same, ha]
        · rw [del_ne hb2, upd_ne hb, upd_ne hb2, upd_ne hb, upd_ne hb2]
    rw [e1]
    have := s.1 ⟨Cx, some [(f2, .int n2), (f1, .int n)]⟩ (some d) (upd F2 d (.xd [(f2, .int n2), (f1, .int n)])) σ (upd H2 d (.xd [(f2, .int n2), (f1, .int n)])) Γ kn (((s.grow g).grow g2).grow (g2.base.lay hd)).2 ⟨_, rfl, upd_same⟩
    rw [hE] at this
    exact this
end
end G

/-! E3: try .. except X as n; isinstance of what was caught; its attributes. -/
namespace G
open PySem PySem.Spec PyProof.Rows L2 PySem.W
/-- the caught exception at a, its dict d -/
@[reducible] def dExn (a : Addr) (d : Option Addr) : Dat Exn where
  rep _ F v x := v = .ref a ∧ x.at F d
  mono := fun {C F F' v x} s ⟨e, h⟩ => ⟨e, by
    cases d with
    | none => exact h
    | some dd => obtain ⟨fs, e1, e2⟩ := h; exact ⟨fs, e1, s _ _ e2⟩⟩
section
variable {Y : YC} {Γ : List Cell} {k : Ks} {te : TE} {a Cx : Addr} {d : Option Addr} {x : Exn} {i : Nat}
theorem Cont.at {e : En} {D : Ends} {E : L2.St → XK} {kb : Exn → List Cell → Prop} (hx : XOk Y e) (c : Cont Y e k D) : Cont ⟨Y.g, E, kb⟩ e k D :=
  ⟨fun F σ H Γ q s => c.nx F σ H Γ q ⟨hx, s.2⟩, c.rt, fun F σ H Γ q s => c.bk F σ H Γ q ⟨hx, s.2⟩, fun F σ H Γ q s => c.ct F σ H Γ q ⟨hx, s.2⟩⟩
end
end G

/-! E4: instances of own classes. -/
namespace G
open PySem PySem.Spec PyProof.Rows L2 PySem.W
/-! calls that may raise, within a try -/
section
variable {X : Cx} {CXt : CXT} {k : Nat} {f C : Addr} {fd : FuncData} {ps : List Str} {sp : Sp} {E : L2.St → XK} {x m : Str} {p pos apos : Pos} {e o : Expr} {es : List Expr} {ta : TE} {t : TA}
def tMakeS (C : Addr) (sp : Sp) (E : L2.St → XK) (t : TA) : TE := fun σ H Q => t σ H fun vs H1 => ∀ x dx, H1 x = none → H1 dx = none → dx ≠ x → sp (.ref x :: vs) (upd (upd H1 dx (.own x)) x (.ins C dx [])) (fun v H2 => v = .non ∧ Q (.ref x) H2) (E σ)
theorem run_makeS {pins : List (Addr × Obj)} {σ : L2.St} {H : Hp} {s : Shared} {Q : VK} {us : List Value} {vs : List V} {E : XK} (M : Mk X.K C f) (F : FnOk X.prog X.w X.K X.mg X.base CXt k f fd ps sp) (hr : Room (k + 1) X.A) (hb : Binds X.K fd ps [])
    (hx : PassesAt CXt X σ E) (I : Inv X pins σ H s) (r : Vals vs us)
    (h : ∀ x dx, H x = none → H dx = none → dx ≠ x → sp (.ref x :: vs) (upd (upd H dx (.own x)) x (.ins C dx [])) (fun v H2 => v = .non ∧ Q (.ref x) H2) E) :
    wpAny (model X.prog X.w) X.A (call (.ref C) us) (EP X pins σ Q) X.xe s := by
  have hq := h (s.heap.objs.size + 1) s.heap.objs.size (I.hok.fresh (Nat.le_succ _)) (I.hok.fresh (Nat.le_refl _)) (Nat.ne_of_lt (Nat.lt_succ_self _))
  have I2 := Inv.made (C := C) I
  have r2 : Vals (V.ref (s.heap.objs.size + 1) :: vs) (Value.ref (s.heap.objs.size + 1) :: us) := .cons rfl r
  have hl : (Value.ref (s.heap.objs.size + 1) :: us).length = ps.length := by
    have e := r2.length
    rw [F.len _ _ _ _ hq] at e
    exact e.symm
  have hb2 := hb _ (Value.ref (s.heap.objs.size + 1) :: us) I2.kIn (by rw [List.append_nil]; exact hl)
  rw [List.append_nil] at hb2
  refine wpAny_call (make_map (f := f) I.kIn M.makes M.init (beq_iff_eq.mp M.fn) (codeAny_mono (F.run _ X.stack _ _ ⟨Value.ref (s.heap.objs.size + 1) :: us, []⟩ (Value.ref (s.heap.objs.size + 1) :: us) _ _ E (hr.make C us [])
    (I2.env0.make C us []) hb2 r2 hq) fun r s' hq' => ?_))
  cases r with
  | error e => exact hx pins _ _ e s' I2 hq'
  | ok fl =>
    cases fl with
    | ret u =>
      obtain ⟨v, H', J, rv, ev, q⟩ := I2.after hq'
      subst ev
      exact ⟨rv, .ref (s.heap.objs.size + 1), H', J, rfl, q⟩
    | next => exact False.elim hq'
    | brk => exact False.elim hq'
    | cont => exact False.elim hq'
theorem pe_makeS (M : Mk X.K C f) (F : FnOk X.prog X.w X.K X.mg X.base CXt k f fd ps sp) (hr : Room (k + 1) X.A) (hg : Gl X x) (hm : X.mg x = some (.ref C)) (hb : Binds X.K fd ps []) (hx : ∀ σ, PassesAt CXt X σ (E σ))
    (ha : PA X (e :: es) t) (hdb : (x == ("__debug__" : Str)) = false := by decide) (he : starEach (e :: es) X.env = (false, eval e X.env) :: starEach es X.env := by rfl) (hpl : (backTo pos (starEach es X.env)).any (·.1) = false := by rfl) :
    PE X (.Call (.Name x p) (e :: es) [] pos) (tMakeS C sp E t) := by
  refine ⟨fun pins s σ H Q I h => ?_⟩
  refine wpAny_Call_Name_kw (ld_glob I hg hm ?_ hdb)
  refine PySem.W.callWith_K (h₀ := X.base) I.ok.mod.kin M.kp (thn (ha.run pos pins s σ H _ I h) fun us s1 ⟨vs, H1, I1, r, q⟩ => ⟨I1.kIn, ?_⟩) he hpl
  exact run_makeS M F hr hb (hx σ) I1 r q
end
/-! data -/
structure Ob1 (α : Type) where
  a : α
  deriving DecidableEq
structure Ob2 (α β : Type) where
  a : α
  b : β
  deriving DecidableEq
section
variable {α β : Type} [d1 : Dat α] [d2 : Dat β] (C0 : Addr) (f1 f2 : Str)
@[reducible] def dOb1 : Dat (Ob1 α) := ⟨fun C F v x => ∃ p dx v1, v = .ref p ∧ F p = some (.ins C0 dx [(f1, v1)]) ∧ d1.rep C F v1 x.a, fun s ⟨p, dx, v1, e, h, r1⟩ => ⟨p, dx, v1, e, s _ _ h, d1.mono s r1⟩⟩
@[reducible] def dOb2 : Dat (Ob2 α β) := ⟨fun C F v x => ∃ p dx v1 v2, v = .ref p ∧ F p = some (.ins C0 dx [(f1, v1), (f2, v2)]) ∧ d1.rep C F v1 x.a ∧ d2.rep C F v2 x.b,
  fun s ⟨p, dx, v1, v2, e, h, r1, r2⟩ => ⟨p, dx, v1, v2, e, s _ _ h, d1.mono s r1, d2.mono s r2⟩⟩
@[reducible] def oOb1 : @OD (Ob1 α) (dOb1 C0 f1) := @OD.mk (Ob1 α) (dOb1 C0 f1)
  (fun C F v x L => ∃ p dx v1, v = .ref p ∧ L = [(p, .ins C0 dx [(f1, v1)])] ∧ d1.rep C F v1 x.a)
  (fun s ⟨p, dx, v1, e, h, r1⟩ => ⟨p, dx, v1, e, h, d1.mono s r1⟩)
  (fun ⟨p, dx, v1, e, h, r1⟩ s k => ⟨p, dx, v1, e, k (p, .ins C0 dx [(f1, v1)]) (by rw [h]; exact List.mem_cons_self), d1.mono s r1⟩)
@[reducible] def oOb2 : @OD (Ob2 α β) (dOb2 C0 f1 f2) := @OD.mk (Ob2 α β) (dOb2 C0 f1 f2)
  (fun C F v x L => ∃ p dx v1 v2, v = .ref p ∧ L = [(p, .ins C0 dx [(f1, v1), (f2, v2)])] ∧ d1.rep C F v1 x.a ∧ d2.rep C F v2 x.b)
  (fun s ⟨p, dx, v1, v2, e, h, r1, r2⟩ => ⟨p, dx, v1, v2, e, h, d1.mono s r1, d2.mono s r2⟩)
  (fun ⟨p, dx, v1, v2, e, h, r1, r2⟩ s k => ⟨p, dx, v1, v2, e, k (p, .ins C0 dx [(f1, v1), (f2, v2)]) (by rw [h]; exact List.mem_cons_self), d1.mono s r1, d2.mono s r2⟩)
end
/-- an instance without attributes yet -/
structure Ob0 where
  u : Unit
@[reducible] def dOb0 (C0 : Addr) : Dat Ob0 := ⟨fun _ F v _ => ∃ p dx, v = .ref p ∧ F p = some (.ins C0 dx []), fun s ⟨p, dx, e, h⟩ => ⟨p, dx, e, s _ _ h⟩⟩
@[reducible] def oOb0 (C0 : Addr) : @OD Ob0 (dOb0 C0) := @OD.mk Ob0 (dOb0 C0)
  (fun _ _ v _ L => ∃ p dx, v = .ref p ∧ L = [(p, .ins C0 dx [])])
  (fun _ h => h)
  (fun ⟨p, dx, e, h⟩ _ k => ⟨p, dx, e, k (p, .ins C0 dx []) (by rw [h]; exact List.mem_cons_self)⟩)
/-- data that are instances of the class at C0 with these attributes -/
structure IsI {α : Type} (d : Dat α) (C0 : Addr) (ns : List Str) : Prop where
  ins : ∀ {C : GCtx} {F : Hp} {v : V} {x : α}, d.rep C F v x → ∃ p dx fs, v = .ref p ∧ F p = some (.ins C0 dx fs) ∧ ∀ f, f ∉ ns → fs.lookup f = none
/-- its attribute f -/
structure IsF {α β : Type} (d : Dat α) (C0 : Addr) (f : Str) (d2 : Dat β) (g : α → β) : Prop where
  fld : ∀ {C : GCtx} {F : Hp} {v : V} {x : α}, d.rep C F v x → ∃ p dx fs v2, v = .ref p ∧ F p = some (.ins C0 dx fs) ∧ fs.lookup f = some v2 ∧ d2.rep C F v2 (g x)
theorem isI0 {C0 : Addr} : IsI (dOb0 C0) C0 [] := ⟨fun ⟨p, dx, e, h⟩ => ⟨p, dx, [], e, h, fun _ _ => rfl⟩⟩
section
variable {α β : Type} [d1 : Dat α] [d2 : Dat β] {C0 : Addr} {f1 f2 : Str}
theorem isI2 : IsI (dOb2 (α := α) (β := β) C0 f1 f2) C0 [f1, f2] := ⟨fun ⟨p, dx, v1, v2, e, h, _⟩ => ⟨p, dx, _, e, h, fun f hf => by
  rw [List.lookup_cons, beq_eq_false_iff_ne.mpr (fun z => hf (by rw [z]; simp)), List.lookup_cons, beq_eq_false_iff_ne.mpr (fun z => hf (by rw [z]; simp))]; rfl⟩⟩
theorem isF2a : IsF (dOb2 (α := α) (β := β) C0 f1 f2) C0 f1 d1 Ob2.a := ⟨fun ⟨p, dx, v1, v2, e, h, r, _⟩ => ⟨p, dx, _, v1, e, h, by rw [List.lookup_cons, beq_self_eq_true], r⟩⟩
theorem isF2b (hn : (f2 == f1) = false) : IsF (dOb2 (α := α) (β := β) C0 f1 f2) C0 f2 d2 Ob2.b := ⟨fun ⟨p, dx, v1, v2, e, h, _, r⟩ => ⟨p, dx, _, v2, e, h, by rw [List.lookup_cons, hn, List.lookup_cons, beq_self_eq_true], r⟩⟩
end
section
variable {Y : YC} {Γ : List Cell} {k : Ks} {te : TE} {tl : TA} {α β : Type} {d : Dat α} {d2 : Dat β} {C0 : Addr} {f : Str} {ns : List Str}
theorem w_fld {g : α → β} {kx : β → Prop} (hf : IsF d C0 f d2 g) (c : Cls Y.K C0) (n : NoAttr Y.K C0 f) (h : W Y te Γ d fun x => kx (g x)) : W Y (tFld Y.K te f) Γ d2 kx := fun e F σ H s Q q => h e F σ H s _ fun v F' H' x kx' gr r => by
  obtain ⟨p, dx, fs, v2, e1, e2, e3, r2⟩ := hf.fld r
  exact ⟨p, C0, dx, fs, v2, e1, gr.fh _ _ e2, c, n, e3, q v2 F' H' _ kx' gr r2⟩
theorem w_con {kx : Int → Prop} {n : Int} {u : Value} (hf : IsI d C0 ns) (c : Cls Y.K C0) (k0 : Con Y.K C0 f (.int n) u) (hn : f ∉ ns) (h : R Y te Γ d fun _ => kx n) : W Y (tCon Y.K te f) Γ dInt kx := fun e F σ H s Q q => h e F σ H s _ fun v F' H' x kx' gr r => by
  obtain ⟨p, dx, fs, e1, e2, e3⟩ := hf.ins r
  exact ⟨p, C0, dx, fs, .int n, u, e1, e2, c, k0, e3 f hn, q _ F' H' n kx' gr rfl⟩
/-! stores within __init__ -/
theorem z_fld1 {d1 : Dat β} {i : Nat} {pin : Option V} {x : Ob0} (hi : Γ[i]? = some (.own (dOb0 C0) (oOb0 C0) pin x)) (c : Cls Y.K C0) (n : NoAttr Y.K C0 f) (h : W Y te Γ d1 fun y => k.nx (Γ.set i (.own (dOb1 C0 f) (oOb1 C0 f) pin ⟨y⟩))) :
    Z Y (sFld Y.K (tVar i) te f) Γ k := fun e F σ H D hM s ct => h e F σ H s _ fun v F' H' y ky g r => by
  have st := s.grow g
  obtain ⟨L, kw, sl⟩ := st.2
  obtain ⟨o, L1, Li, L2, e1, e2, ⟨v0, rfl, hp, p, dx, rfl, rfl⟩, f2⟩ := sl.get hi
  subst e2
  have hH : H' p = some (.ins C0 dx []) := (kw.ow (p, .ins C0 dx []) (by simp)).2.1
  refine ⟨.ref p, e1, p, C0, dx, [], rfl, hH, c, n, by decide, ct.nx F' σ _ _ ky ⟨s.1, L1 ++ [(p, .ins C0 dx [(f, v)])] ++ L2, ?_, ?_⟩⟩
  · exact (kw.front.put (o' := .ins C0 dx [(f, v)]) (fun _ z => by cases z)).back (Li := [(p, .ins C0 dx [(f, v)])])
  · have q := f2 F' (some (.ref p)) (.own (dOb1 C0 f) (oOb1 C0 f) pin ⟨y⟩) [(p, .ins C0 dx [(f, v)])] (Same.refl _) ⟨.ref p, rfl, hp, p, dx, v, rfl, rfl, r⟩
    have z : σ.set i (some (.ref p)) = σ := by
      apply List.ext_getElem?
      intro j
      by_cases hj : i = j
      · subst hj
        obtain ⟨hlt, hv⟩ := List.getElem?_eq_some_iff.mp e1
        rw [List.getElem?_set_self hlt, e1]
      · rw [List.getElem?_set_ne hj]
    rw [z] at q
    exact q
theorem z_fld2 {α2 : Type} {d1 : Dat β} {dn : Dat α2} {i : Nat} {pin : Option V} {f1 : Str} {x : Ob1 β} (hi : Γ[i]? = some (.own (dOb1 C0 f1) (oOb1 C0 f1) pin x)) (hne : (f1 == f) = false) (c : Cls Y.K C0) (n : NoAttr Y.K C0 f) (h : W Y te Γ dn fun y => k.nx (Γ.set i (.own (dOb2 C0 f1 f) (oOb2 C0 f1 f) pin ⟨x.a, y⟩))) :
    Z Y (sFld Y.K (tVar i) te f) Γ k := fun e F σ H D hM s ct => h e F σ H s _ fun v F' H' y ky g r => by
  have st := s.grow g
  obtain ⟨L, kw, sl⟩ := st.2
  obtain ⟨o, L1, Li, L2, e1, e2, ⟨v0, rfl, hp, p, dx, v1, rfl, rfl, r1⟩, f2⟩ := sl.get hi
  subst e2
  have hH : H' p = some (.ins C0 dx [(f1, v1)]) := (kw.ow (p, .ins C0 dx [(f1, v1)]) (by simp)).2.1
  have hp2 : putF f v [(f1, v1)] = [(f1, v1), (f, v)] := by
    unfold putF
    rw [if_neg (beq_eq_false_iff_ne.mp hne)]
    rfl
  refine ⟨.ref p, e1, p, C0, dx, [(f1, v1)], rfl, hH, c, n, by show 1 < 1000; omega, ?_⟩
  rw [hp2]
  refine ct.nx F' σ _ _ ky ⟨s.1, L1 ++ [(p, .ins C0 dx [(f1, v1), (f, v)])] ++ L2, ?_, ?_⟩
  · exact (kw.front.put (o' := .ins C0 dx [(f1, v1), (f, v)]) (fun _ z => by cases z)).back (Li := [(p, .ins C0 dx [(f1, v1), (f, v)])])
  · have q := f2 F' (some (.ref p)) (.own (dOb2 C0 f1 f) (oOb2 C0 f1 f) pin ⟨x.a, y⟩) [(p, .ins C0 dx [(f1, v1), (f, v)])] (Same.refl _) ⟨.ref p, rfl, hp, p, dx, v1, v, rfl, rfl, r1, r⟩
    have z : σ.set i (some (.ref p)) = σ := by
      apply List.ext_getElem?
      intro j
      by_cases hj : i = j
      · subst hj
        obtain ⟨hlt, hv⟩ := List.getElem?_eq_some_iff.mp e1
        rw [List.getElem?_set_self hlt, e1]
      · rw [List.getElem?_set_ne hj]
    rw [z] at q
    exact q
end
end G

/-! E5: making an instance: __init__ and the call of the class. -/
namespace G
open PySem PySem.Spec PyProof.Rows L2 PySem.W
section
variable {C : GCtx} {Y : YC} {Γ : List Cell} {α : Type} {d : Dat α}
/-- __init__ of the class at C0 over the data Γ: it leaves an instance as post says, or lets an exception out -/
def FnI (C : GCtx) {α : Type} {d : Dat α} (od : OD α) (C0 : Addr) (Γ : List Cell) (post : α → Prop) (xp : Exn → Prop) (vs : List V) (H : Hp) (Q : VK) (E : XK) : Prop :=
  ∃ p dx ws F H1, vs = .ref p :: ws ∧ H1 p = none ∧ H1 dx = none ∧ dx ≠ p ∧ H = upd (upd H1 dx (.own p)) p (.ins C0 dx []) ∧ Gr F H1 F H1 ∧ Slots C F (ws.map some) Γ [] ∧
    (∀ x F' H' L, post x → Wk ⟨F, H1, []⟩ F' L H' → od.orep C F' (.ref p) x L → Q .non H') ∧
    ∀ x d F' H', xp x → Wk ⟨F, H1, []⟩ F' [] H' → x.at F' d → E (.ref x.cls) d H'
theorem FnI.len {od : @OD α d} {C0 : Addr} {post : α → Prop} {xp : Exn → Prop} {vs : List V} {H : Hp} {Q : VK} {E : XK} (h : FnI C od C0 Γ post xp vs H Q E) : vs.length = Γ.length + 1 := by
  obtain ⟨p, dx, ws, F, H1, e, _, _, _, _, _, sl, _⟩ := h
  rw [e, List.length_cons, ← sl.len, List.length_map]
theorem FnI.mono {od : @OD α d} {C0 : Addr} {post post' : α → Prop} {xp xp' : Exn → Prop} {vs : List V} {H : Hp} {Q : VK} {E : XK} (h : FnI C od C0 Γ post xp vs H Q E) (m : ∀ x, post' x → post x) (mx : ∀ x, xp' x → xp x) : FnI C od C0 Γ post' xp' vs H Q E := by
  obtain ⟨p, dx, ws, F, H1, e, a1, a2, a3, a4, a5, sl, q, qx⟩ := h
  exact ⟨p, dx, ws, F, H1, e, a1, a2, a3, a4, a5, sl, fun x F' H' L k => q x F' H' L (m x k), fun x d F' H' k => qx x d F' H' (mx x k)⟩
def SpI (C : GCtx) (sp : Sp) {α : Type} {d : Dat α} (od : OD α) (C0 : Addr) (cs : List Cell) (post : α → Prop) (xp : Exn → Prop) : Prop := ∀ vs H Q E, FnI C od C0 cs post xp vs H Q E → sp vs H Q E
/-- C(..) -/
theorem o_makeS {od : @OD α d} {C0 : Addr} {sp : Sp} {E : L2.St → XK} {tl : TA} {kx : α → Prop} (hE : E = Y.E) (h : WA Y tl Γ fun cs => SpI Y.g sp od C0 cs kx fun x => Y.kx x Γ) : O Y (tMakeS C0 sp E tl) Γ od kx := fun e F σ H s Q q => h e F σ H s _ fun vs F1 H1 cs hc g1 sl => fun p dx hp hdx hne => by
  subst hE
  refine hc _ _ _ _ ⟨p, dx, vs, F1, H1, rfl, hp, hdx, hne, rfl, g1.base, sl, fun x F' H' L kx' g2 r => ⟨rfl, ?_⟩, fun x d F' H' kx' g2 hd => ?_⟩
  · exact q _ F' H' L x kx' (by simpa using g1.trans g2) r
  · exact s.1 x d F' σ H' Γ kx' ((s.grow g1).grow g2).2 hd
/-- THE BODY of an __init__ -/
theorem FnI.body {od : @OD α d} {C0 : Addr} {N : List Str} {post : α → Prop} {xp : Exn → Prop} {vs : List V} {H : Hp} {Q : VK} {E : XK} {t : TS} (h : FnI C od C0 Γ post xp vs H Q E)
    (hz : ∀ p, Z ⟨C, fun _ => E, fun x _ => xp x⟩ t (.own (dOb0 C0) (oOb0 C0) (some (.ref p)) ⟨()⟩ :: (Γ ++ List.replicate (N.length - (Γ.length + 1)) .no)) { nx := fun Γ' => ∃ x, Γ'[0]? = some (.own d od (some (.ref p)) x) ∧ post x, rt := fun _ _ => False, bk := fun _ => False, ct := fun _ => False }) : t { nx := fun _ H' => Q .non H', rt := Q } (L2.start N vs) H := by
  have hl := h.len
  obtain ⟨p, dx, ws, F, H1, e, hp, hdx, hne, eH, g, sl, q, qx⟩ := h
  subst e eH
  have hl2 : ws.length = Γ.length := by simpa using hl
  have k0 : Wk ⟨F, H1, []⟩ (upd F dx (.own p)) [] (upd H1 dx (.own p)) := Wk.lay g hdx
  have k1 : Wk ⟨F, H1, []⟩ (upd F dx (.own p)) [(p, .ins C0 dx [])] (upd (upd H1 dx (.own p)) p (.ins C0 dx [])) := k0.own (by rw [upd_ne (Ne.symm hne)]; exact hp) (fun _ z => by cases z)
  have st : State ⟨C, fun _ => E, fun x _ => xp x⟩ ⟨F, H1, []⟩ (upd F dx (.own p)) (L2.start N (.ref p :: ws)) (upd (upd H1 dx (.own p)) p (.ins C0 dx [])) (.own (dOb0 C0) (oOb0 C0) (some (.ref p)) ⟨()⟩ :: (Γ ++ List.replicate (N.length - (Γ.length + 1)) .no)) := by
    refine ⟨fun x d F' σ' H' Γ' k ⟨L, kw, _⟩ hd => qx x d F' H' k (kw.sub (fun _ z => nomatch z) List.nodup_nil) hd, [(p, .ins C0 dx [])], k1, ?_⟩
    unfold L2.start
    rw [List.length_cons, hl2]
    exact .cons (L := [(p, .ins C0 dx [])]) (L' := []) ⟨.ref p, rfl, fun u z => by cases z; rfl, p, dx, rfl, rfl⟩ (slots_app (sl.mono k1.ff) (slots_pad _))
  refine hz p ⟨F, H1, []⟩ _ (L2.start N (.ref p :: ws)) _ _ rfl st ⟨fun F' σ' H' Γ' hn s' => ?_, fun F' σ' H' Γ' v c L L' z => z.elim, fun _ _ _ _ z => z.elim, fun _ _ _ _ z => z.elim⟩
  obtain ⟨x, hi, px⟩ := hn
  obtain ⟨_, L, kw, sl'⟩ := s'
  obtain ⟨o, L1, Li, L2, e1, e2, ⟨v, rfl, hpin, r⟩, _⟩ := sl'.get hi
  cases hpin _ rfl
  subst e2
  refine q x F' H' Li px (kw.sub (fun p hp => by simp [hp]) ?_) r
  have n1 := kw.front.nd
  rw [List.map_append] at n1
  exact (List.nodup_append.mp n1).1
end
end G

/-! E6: methods, static methods, x in o by an own __contains__. -/
namespace G
open PySem PySem.Spec PyProof.Rows L2 PySem.W
abbrev EF : XK := fun _ _ _ => False
theorem passF {X : Cx} {P : Program} {w : World} : Passes (L2.CX P w) X EF := fun _ _ _ _ _ _ _ c => by
  obtain ⟨_, _, _, _, _, _, _, _, _, _, _, _, h⟩ := c
  exact h.elim
theorem passFS {X : Cx} {P : Program} {w : World} (σ : L2.St) : PassesAt (L2.CX P w) X σ EF := fun _ _ _ _ _ _ c => by
  obtain ⟨_, _, _, _, _, _, _, _, _, _, _, _, h⟩ := c
  exact h.elim
section
variable {X : Cx} {CXt : CXT} {k : Nat} {f C g p : Addr} {mc : Value} {fd : FuncData} {ps : List Str} {sp : Sp} {E : L2.St → XK} {x m : Str} {apos pos : Pos} {e o : Expr} {es : List Expr} {ta : TE} {t : TA} {pl : Sem Bool}
/-- o.m(..) of an instance of the class at C; it may raise -/
def tMethE (C : Addr) (m : Str) (sp : Sp) (E : L2.St → XK) (ta : TE) (t : TA) : TE := fun σ H Q => ta σ H fun x H1 => ∃ a dx fs, x = .ref a ∧ H1 a = some (.ins C dx fs) ∧ fs.lookup m = none ∧ t σ H1 fun vs H2 => sp (x :: vs) H2 Q (E σ)
theorem pe_methE (he : PE X o ta) (c : Cls X.K C) (hm : Meth X.K C m f) (F : FnOk X.prog X.w X.K X.mg X.base CXt k f fd ps sp) (hr : Room k X.A) (hb : Binds X.K fd ps []) (hx : ∀ σ, PassesAt CXt X σ (E σ)) (ha : PA X (e :: es) t)
    (hst : starEach (e :: es) X.env = (false, eval e X.env) :: starEach es X.env := by rfl) (hpl : (backTo pos (starEach es X.env)).any (·.1) = false := by rfl)
    (ht : eval (.Call (.Attribute o m apos) (e :: es) [] pos) X.env = (do
      let ov ← eval o X.env
      standAt apos.atName
      let (f, first) ← holding [ov] (getMethod ov m pl)
      callWith pos f first (backTo pos (starEach (e :: es) X.env)) (backToKw pos (keywordEach [] X.env))) := by rfl) :
    PE X (.Call (.Attribute o m apos) (e :: es) [] pos) (tMethE C m sp E ta t) := by
  refine ⟨fun pins s σ H Q I h => ?_⟩
  refine PySem.W.methodCall_KW (pl := pl) (thn (he.run pins s σ H _ I h) fun u s1 ⟨x, H1, I1, rx, a, dx, fs, ex, ea, l, q⟩ => ?_) ht
  subst ex
  obtain rfl : u = Value.ref a := rx
  refine getmeth_ok I1 ea c hm l ?_
  refine PySem.W.callWith_K (first := [.ref a]) (h₀ := X.base) I.ok.mod.kin hm.kp (thn (ha.run pos pins s1 σ H1 _ I1 q) fun us s2 ⟨vs, H2, I2, r, q2⟩ => ⟨I2.kIn, ?_⟩) hst hpl
  exact run_fnS (us := .ref a :: us) (vs := .ref a :: vs) F hr hb (hx σ) I2 (.cons rfl r) q2
/-- C.m is a static method: its record at p, its def at g -/
structure SMet (K : Frag) (C : Addr) (mc : Value) (m : Str) (p g : Addr) : Prop where
  ty : typeIn K (.ref C) = some mc
  rd : readsIn K C mc = true
  ga : specialIn K (.ref C) "__getattribute__" = some (some (.builtin "type.__getattribute__"))
  at_ : findCls K (.ref C) mc m = some (.get (.builtin "staticmethod.__get__") (.ref p) .none (.ref C))
  rc : ∃ rest, recIn K p "staticmethod" = some (.ref g :: rest)
  kp : keepIn K (.ref g) = true
def tSMethE (C : Addr) (sp : Sp) (E : L2.St → XK) (ta : TE) (t : TA) : TE := fun σ H Q => ta σ H fun x H1 => x = .ref C ∧ t σ H1 fun vs H2 => sp vs H2 Q (E σ)
theorem pe_smethE (he : PE X o ta) (c : SMet X.K C mc m p g) (F : FnOk X.prog X.w X.K X.mg X.base CXt k g fd ps sp) (hr : Room k X.A) (hb : Binds X.K fd ps []) (hx : ∀ σ, PassesAt CXt X σ (E σ)) (ha : PA X (e :: es) t)
    (hst : starEach (e :: es) X.env = (false, eval e X.env) :: starEach es X.env := by rfl) (hpl : (backTo pos (starEach es X.env)).any (·.1) = false := by rfl)
    (ht : eval (.Call (.Attribute o m apos) (e :: es) [] pos) X.env = (do
      let ov ← eval o X.env
      standAt apos.atName
      let (f, first) ← holding [ov] (getMethod ov m pl)
      callWith pos f first (backTo pos (starEach (e :: es) X.env)) (backToKw pos (keywordEach [] X.env))) := by rfl) :
    PE X (.Call (.Attribute o m apos) (e :: es) [] pos) (tSMethE C sp E ta t) := by
  refine ⟨fun pins s σ H Q I h => ?_⟩
  refine PySem.W.methodCall_KW (pl := pl) (thn (he.run pins s σ H _ I h) fun u s1 ⟨x, H1, I1, rx, ex, q⟩ => ?_) ht
  subst ex
  obtain rfl : u = Value.ref C := rx
  obtain ⟨mm, fr⟩ := I1.fr
  obtain ⟨rest, hrec⟩ := c.rc
  refine method_of_cls fr I1.ok.mod.kin c.ga (cls_sm fr I1.ok.mod.kin c.ty c.rd c.at_ hrec rfl ?_)
  refine PySem.W.callWith_K (first := []) (h₀ := X.base) I.ok.mod.kin c.kp (thn (ha.run pos pins _ σ H1 _ (I1.tok _) q) fun us s2 ⟨vs, H2, I2, r, q2⟩ => ⟨I2.kIn, ?_⟩) hst hpl
  exact run_fnS F hr hb (hx σ) I2 r q2
/-- x in o by the class's own __contains__ (a def that raises nothing) -/
def rInO (C : Addr) (sp : Sp) (b0 : Bool) : R2 := fun v x H Q => ∃ a dx fs, x = .ref a ∧ H a = some (.ins C dx fs) ∧ sp [x, v] H (fun r H' => ∃ b, r = .bl b ∧ Q (.bl (if b0 then !b else b)) H') EF
theorem inst_of {pins : List (Addr × Obj)} {σ : L2.St} {H : Hp} {s : Shared} {a dx : Addr} {fs : List (Str × V)} (I : Inv X pins σ H s) (e : H a = some (.ins C dx fs)) : ∃ ox od, InstAt s.heap a ox C od := by
  obtain ⟨mA, O, _⟩ := ins_get I.hok e
  obtain ⟨od, J, _⟩ := O.look
  exact ⟨_, _, J⟩
theorem op_niO (c : Meth X.K C "__contains__" f) (F : FnOk X.prog X.w X.K X.mg X.base CXt k f fd ps sp) (hr : Room k X.A) (hb : Binds X.K fd ps []) (hx : ∀ σ, PassesAt CXt X σ EF) : OpR X (compareOp .NotIn) (rInO C sp true) := by
  intro pins s σ H x y v u Q I rx ry ⟨a, dx, fs, ey, ea, q⟩
  subst ey
  obtain rfl : u = Value.ref a := ry
  obtain ⟨ox, od, J⟩ := inst_of I ea
  obtain ⟨mm, fr⟩ := I.fr
  refine notIn_K fr I.ok.mod.kin J c.at_ c.fn (thn (run_fnS (E := fun _ => EF) (us := [.ref a, v]) (vs := [.ref a, x]) F hr hb (hx σ) I (.cons rfl (.cons rx .nil)) q) fun r s1 ⟨z, H1, I1, rz, b, ez, q1⟩ => ?_)
  subst ez
  obtain rfl : r = Value.bool b := rz
  exact wpAny_truthy_bool ⟨.bl (!b), H1, I1, rfl, q1⟩
end
/-! readings -/
section
variable {Y : YC} {Γ : List Cell} {ta tb : TE} {tl : TA} {α β : Type} {d : Dat α} {d2 : Dat β} {C0 : Addr} {m : Str} {ns : List Str} {sp : Sp} {E : L2.St → XK}
theorem meth_of (hI : IsI d C0 ns) (hm : m ∉ ns) {C : GCtx} {F : Hp} {v : V} {x : α} (r : d.rep C F v x) : ∃ a dx fs, v = .ref a ∧ F a = some (.ins C0 dx fs) ∧ fs.lookup m = none := by
  obtain ⟨p, dx, fs, e1, e2, e3⟩ := hI.ins r
  exact ⟨p, dx, fs, e1, e2, e3 m hm⟩
theorem w_methE {kx : β → Prop} (hE : E = Y.E) (hI : IsI d C0 ns) (hm : m ∉ ns) (h : W Y ta Γ d fun x => WA Y tl Γ fun cs => SpX Y.g sp (.val d x :: cs) (fun c => ∃ r, c = .val d2 r ∧ kx r) fun x => Y.kx x Γ) : W Y (tMethE C0 m sp E ta tl) Γ d2 kx := fun e F σ H s Q q => h e F σ H s _ fun v F1 H1 x h1 g1 r1 => by
  subst hE
  obtain ⟨a, dx, fs, e1, e2, e3⟩ := meth_of hI hm r1
  refine ⟨a, dx, fs, e1, g1.fh _ _ e2, e3, h1 e F1 σ H1 (s.grow g1) _ fun vs F2 H2 cs hc g2 sl => ?_⟩
  refine hc (v :: vs) H2 Q _ ⟨F2, g2.base, .cons (L := []) ⟨rfl, v, rfl, d.mono g2.ff r1⟩ sl, fun v' F' H' c L ⟨r, ec, kr⟩ g3 rc => ?_, fun x' d' F' H' kx' g3 hd => ?_⟩
  · subst ec
    obtain ⟨e4, v2, e5, rv⟩ := rc
    subst e4
    cases (Option.some.inj e5)
    exact q v' F' H' r kr ((g1.trans0 g2).trans0 g3) rv
  · exact s.1 x' d' F' σ H' Γ kx' (((s.grow g1).grow g2).grow g3).2 hd
theorem o_methE {od : @OD β d2} {kx : β → Prop} (hE : E = Y.E) (hI : IsI d C0 ns) (hm : m ∉ ns) (h : W Y ta Γ d fun x => WA Y tl Γ fun cs => SpX Y.g sp (.val d x :: cs) (fun c => ∃ r, c = .own d2 od none r ∧ kx r) fun x => Y.kx x Γ) : O Y (tMethE C0 m sp E ta tl) Γ od kx := fun e F σ H s Q q => h e F σ H s _ fun v F1 H1 x h1 g1 r1 => by
  subst hE
  obtain ⟨a, dx, fs, e1, e2, e3⟩ := meth_of hI hm r1
  refine ⟨a, dx, fs, e1, g1.fh _ _ e2, e3, h1 e F1 σ H1 (s.grow g1) _ fun vs F2 H2 cs hc g2 sl => ?_⟩
  refine hc (v :: vs) H2 Q _ ⟨F2, g2.base, .cons (L := []) ⟨rfl, v, rfl, d.mono g2.ff r1⟩ sl, fun v' F' H' c L ⟨r, ec, kr⟩ g3 rc => ?_, fun x' d' F' H' kx' g3 hd => ?_⟩
  · subst ec
    obtain ⟨v2, e5, _, rv⟩ := rc
    cases (Option.some.inj e5)
    exact q v' F' H' L r kr (by simpa using (g1.trans0 g2).trans g3) rv
  · exact s.1 x' d' F' σ H' Γ kx' (((s.grow g1).grow g2).grow g3).2 hd
theorem w_inO {b0 : Bool} {kb : Bool → Prop} (hI : IsI d2 C0 ns) (h : W Y ta Γ d fun x => W Y tb Γ d2 fun y => SpX Y.g sp [.val d2 y, .val d x] (fun c => ∃ b, c = .val dBool b ∧ kb (if b0 then !b else b)) fun _ => False) : W Y (tOp (rInO C0 sp b0) ta tb) Γ dBool kb := fun e F σ H s Q q => h e F σ H s _ fun v1 F1 H1 x h1 g1 r1 => h1 e F1 σ H1 (s.grow g1) _ fun v2 F2 H2 y hc g2 r2 => by
  obtain ⟨p, dx, fs, e1, e2, _⟩ := hI.ins r2
  refine ⟨p, dx, fs, e1, g2.fh _ _ e2, ?_⟩
  refine hc [v2, v1] H2 _ _ ⟨F2, g2.base, .cons (L := []) ⟨rfl, v2, rfl, r2⟩ (.cons (L := []) ⟨rfl, v1, rfl, d.mono g2.ff r1⟩ .nil), fun v' F' H' c L ⟨b, ec, kr⟩ g3 rc => ?_, fun _ _ _ _ z => z.elim⟩
  subst ec
  obtain ⟨e4, v3, e5, rv⟩ := rc
  subst e4
  cases (Option.some.inj e5)
  cases (show v' = .bl b from rv)
  exact ⟨b, rfl, q _ F' H' _ kr ((g1.trans0 g2).trans0 g3) rfl⟩
end
end G

/-! E7: the classes' addresses; what stands within a class. -/
namespace G
open PySem PySem.Spec PyProof.Rows L2 PySem.W
def clsB : Stmt → List Stmt
  | .ClassDef (body := b) .. => b
  | _ => []
/-- the exception's __init__ of the text: a function that captured its class -/
def initNF (name qual : Str) (st : Stmt) (cc c : Addr) : NdefX.NF := ⟨name, qual, defArgs st, defBody st, defScope st, [(("__class__" : Str), cc)], c⟩
end G

section
set_option maxHeartbeats 2000000
/-! E8: enumerate over a tuple. -/
namespace G
open PySem PySem.Spec PyProof.Rows L2 PySem.W
open AutoSeq1 (wpAny_loadPart')
theorem meets_enumT (l : Addr) (items : Array Value) (n : Nat) (dct : Option Addr) (sl : Array (Option Value)) :
    Meets (Builtin.«enumerate.__new__» ⟨[.type "enumerate", .ref l], []⟩) (fun _ R s => s.heap.get? l = some { cls := .type "tuple", dict := dct, data := .seq items n, slots := sl } ∧
      R (.ok (.ret (.ref (s.heap.push { cls := .type "tuple_iterator", data := .fields #[.ref l, .int 0 0] }).objs.size)))
        { s with heap := (s.heap.push { cls := .type "tuple_iterator", data := .fields #[.ref l, .int 0 0] }).push { cls := .type "enumerate", data := .fields #[.none, .bool false, .ref s.heap.objs.size, rawInt 0, .none, .none] } }) :=
  .of_wp fun prog w A R s h => by
    obtain ⟨hp, g, d, tk, os⟩ := s; obtain ⟨hl, h⟩ := h
    have hsub := sub_enumerate
    have hL : Heap.IsTuple (Shared.heap ⟨hp, g, d, tk, os⟩) l items := ⟨_, hl, rfl, n, rfl⟩
    wp_walk using wpAny_loadPart' hl
    refine wpAny_stack_any fun st => wpAny_pure ?_
    split
    · rename_i c _ _ _ _ _
      cases (c == Value.type "enumerate")
      · wp_walk using wpAny_loadPart' hl, wpAny_pyIter_tuple hL
        exact ⟨_, rfl, h⟩
      · wp_walk using wpAny_loadPart' hl, wpAny_pyIter_tuple hL
        exact ⟨_, rfl, h⟩
    · wp_walk using wpAny_loadPart' hl, wpAny_pyIter_tuple hL
      exact ⟨_, rfl, h⟩
section
variable {prog : Program} {w : World} {A : Around} {E : Value → Shared → Prop} {s : Shared}
theorem call_enumerate_tup {l : Addr} {items : Array Value} {Q : Value → Shared → Prop} (hL : s.heap.IsTuple l items)
    (h : ∀ h', IsEnum h' (s.heap.objs.size + 1) s.heap.objs.size 0 .none → h'.IsTupleIter s.heap.objs.size l 0 → h'.objs.size = s.heap.objs.size + 2 →
      (∀ b o, s.heap.get? b = some o → h'.get? b = some o) → Q (.ref (s.heap.objs.size + 1)) { s with heap := h' }) :
    wpAny (model prog w) A (call (.type "enumerate") [.ref l]) Q E s := by
  obtain ⟨⟨c, dct, dt, sl⟩, hl, hc, n, hd⟩ := hL
  replace hc : c = .type "tuple" := hc
  replace hd : dt = .seq items n := hd
  subst hc hd
  refine callType_new F.called_enumerate (by decide) (F.typeCall_enumerate_1 _) (F.newCall_enumerate_1 _) (fun obj => F.args_object_init_2 obj _) F.entry_enumerate_new
    (meets_enumT l items n dct sl) ⟨hl, ?_⟩
  have hz : (s.heap.push { cls := .type "tuple_iterator", data := .fields #[.ref l, .int 0 0] }).objs.size = s.heap.objs.size + 1 := Heap.size_push ..
  show _ ∧ _
  rw [hz]
  have he : IsEnum ((s.heap.push { cls := .type "tuple_iterator", data := .fields #[.ref l, .int 0 0] }).push
      { cls := .type "enumerate", data := .fields #[.none, .bool false, .ref s.heap.objs.size, rawInt 0, .none, .none] }) (s.heap.objs.size + 1) s.heap.objs.size 0 .none := by
    have := Heap.get?_push_size (s.heap.push { cls := .type "tuple_iterator", data := .fields #[.ref l, .int 0 0] })
      (o := { cls := .type "enumerate", data := .fields #[.none, .bool false, .ref s.heap.objs.size, rawInt 0, .none, .none] }) rfl
    rw [hz] at this; exact this
  refine ⟨⟨_, he, rfl⟩, h _ he ⟨_, Heap.get?_push_of_some _ (Heap.get?_push_size _ rfl), rfl, rfl⟩ (by rw [Heap.size_push, hz]) fun b o x => Heap.get?_push_of_some _ (Heap.get?_push_of_some _ x)⟩
end
/-- the tuple at a at each turn, each item in a new pair -/
def IteT (K : Frag) (a : Addr) : It :=
  ⟨fun i H => ∃ (xs : List V) (x : V), SqT K H a xs ∧ xs[i]? = some x, fun i H v H' => ∃ T x, v = .ref T ∧ H T = none ∧ H' = upd H T (.tup [.int (i : Nat), x]) ∧ ∀ xs, SqT K H a xs → xs[i]? = some x, fun i H => ∃ xs : List V, SqT K H a xs ∧ xs.length ≤ i⟩
theorem turn_enumT {P : Program} {w : World} {K : Frag} {elts : List Expr} {kk : Nat} {tpos : Pos} (a e it : Addr) :
    Turn P w K (.Tuple elts kk tpos) (IteT K a) [e, it] e (fun i h => (∃ old, IsEnum h e it ((i : Nat) : Int) old) ∧ h.IsTupleIter it a i ∧ e ≠ it) where
  mem := by simp
  obj := fun i h st b hb => by
    obtain ⟨⟨old, he⟩, ⟨o, ho, hc, hd⟩, _⟩ := st
    have e' : b = e ∨ b = it := by simpa using hb
    rcases e' with z | z
    · rw [z]; exact ⟨_, he, fun v q => nomatch q⟩
    · rw [z]; exact ⟨o, ho, fun v q => by rw [hd] at q; cases q⟩
  keep := fun i h h' st k => let ⟨⟨old, he⟩, hi, hne⟩ := st; ⟨⟨old, k e (by simp) _ he⟩, hi.at fun o q => k it (by simp) o q, hne⟩
  item := by
    intro X hP hw hK hc i pins s σ H E I hf st hg
    subst hP hw hK
    obtain ⟨⟨old, he⟩, hit, hne⟩ := st
    obtain ⟨xs, x, hq, hx⟩ := hg
    obtain ⟨its, rv, p, hz⟩ := I.tuple hq
    obtain ⟨u, hu, ru⟩ := rv.get hx
    have hel : e < s.heap.objs.size := Heap.lt_size he
    have hil : it < s.heap.objs.size := by obtain ⟨_, q, _⟩ := hit; exact Heap.lt_size q
    have pT : s.heap.IsTuple a its.toArray := p
    have ane : a ≠ it := fun z => by
      obtain ⟨o, q1, q2, _⟩ := hit
      obtain ⟨o2, q3, q4, _⟩ := pT
      rw [z, q1] at q3
      cases q3
      rw [q2] at q4
      exact absurd (Value.type.inj q4) (by decide)
    have ane2 : e ∉ [it, a] := fun z => by
      rcases List.mem_cons.mp z with z | z
      · exact hne z
      · rw [List.mem_singleton] at z
        obtain ⟨o2, q3, q4, _⟩ := pT
        rw [← z, show s.heap.get? e = _ from he] at q3
        cases q3
        exact absurd (Value.type.inj q4) (by decide)
    have hlt : i < its.toArray.size := by
      have := (List.getElem?_eq_some_iff.mp hu).1
      simpa using this
    have hh : X.A.in1.handled = none := I.ok.hd hc
    refine wpAny_pyNext_enum_itemD (Draws.tuple hh it a ane its.toArray) he ⟨hit, pT⟩ hlt hne ane2 fun y h' tk hy ho hst hT hsz hk => ?_
    have ey : y = u := by
      have h1 : its.toArray[i]? = some y := hy
      rw [List.getElem?_toArray, hu] at h1
      exact (Option.some.inj h1).symm
    subst ey
    refine ⟨_, rfl, wpAny_letOwnedTupleGo_enum (s := { s with heap := h', toks := tk + 1 }) ho fun h'' he' sb => ?_⟩
    have hT2 : h''.get? s.heap.objs.size = some { cls := .type "tuple", data := .seq #[.int i tk, y] } := (sb.2 _ (Nat.ne_of_gt hel)).trans hT
    have new : ObjOk X.prog X.w (upd H s.heap.objs.size (.tup [.int (i : Nat), x])) h'' s.heap.objs.size (.tup [.int (i : Nat), x]) :=
      ⟨by show 2 ≤ sizeLine; decide, [.int i tk, y], .cons ⟨_, rfl⟩ (.cons ru .nil), ⟨_, hT2, rfl, _, rfl⟩⟩
    have I1 : Inv X pins σ (upd H s.heap.objs.size (.tup [.int (i : Nat), x])) { s with heap := h'', toks := tk + 1 } :=
      I.turnedNew (ch := [e, it]) (fun b ob hb q => (sb.2 b (fun z => hb (by simp [z]))).trans (hk b ob (fun z => hb (by simp [z])) (fun z => hb (by simp [z])) q)) hf (Nat.le_refl _) new
    refine ⟨.ref s.heap.objs.size, _, I1, rfl, ⟨_, x, rfl, I.hok.fresh (Nat.le_refl _), rfl, fun ys hy => by rw [I.tuple_inj hy hq]; exact hx⟩, ⟨⟨y, ?_⟩, hst.1.at fun o q => (sb.2 it (Ne.symm hne)).trans q, hne⟩, fun b hb => ?_⟩
    · have e1 : ((i + 1 : Nat) : Int) = (i : Int) + 1 := by omega
      rw [e1]; exact he'
    · have hb' : b < s.heap.objs.size := by
        have e' : b = e ∨ b = it := by simpa using hb
        rcases e' with z | z
        · rw [z]; exact hel
        · rw [z]; exact hil
      rw [upd_ne (Nat.ne_of_lt hb')]
      exact (hf b hb).1
  done := by
    intro X hP hw hK hc i pins s σ H E I hf st hg
    subst hP hw hK
    obtain ⟨⟨old, he⟩, hit, hne⟩ := st
    obtain ⟨xs, hq, hx⟩ := hg
    obtain ⟨its, rv, p, hz⟩ := I.tuple hq
    obtain ⟨f0, f1, f2, f3, f4, f5⟩ := hf it (by simp)
    have hl := rv.length
    have pT : s.heap.IsTuple a its.toArray := p
    have ane : a ≠ it := fun z => by
      obtain ⟨o, q1, q2, _⟩ := hit
      obtain ⟨o2, q3, q4, _⟩ := pT
      rw [z, q1] at q3
      cases q3
      rw [q2] at q4
      exact absurd (Value.type.inj q4) (by decide)
    have hh : X.A.in1.handled = none := I.ok.hd hc
    have hTy : s.TypeIs (.ref e) "enumerate" := ⟨_, he, rfl⟩
    unfold pyNext
    refine wpAny_bind (wpAny_attempt (wpAny_callSpecial?_slot (name := Str.ofString "__next__") hTy F.slot_enumerate_next
      (wpAny_call_entry F.slot_enumerate_next hTy F.entry_enumerate_next ?_ (F.args_enumerate_next_1 _))))
    show wpAny _ _ (field (.ref e) 2 >>= _) _ _ _
    refine wpAny_bind (wpAny_field he rfl (x := .ref it) rfl ?_)
    refine wpAny_bind (wpAny_nextOf_tuple_end hh hit pT (by simp; omega) fun h' x he' hx' => ?_)
    obtain ⟨o, ho, hc2⟩ := hx'
    refine wpAny_bind (wpAny_isInstance (T := "StopIteration") (b := true) ⟨o, ho, hc2⟩ isSubtype_stop ?_)
    exact wpAny_pure ⟨rfl, I.turned (t' := s.toks) (fun b o hb q => he' b o hb q) f0 f1 f3 f4 f5⟩
  self := fun A i s Q E st h => let ⟨⟨_, he⟩, _⟩ := st; wpAny_pyIter_enum he h
def iEnumT (K : Frag) (ta : TA) : TI := fun σ H R => ta σ H fun vs H1 => ∃ a xs, vs = [.ref a] ∧ SqT K H1 a xs ∧ R (IteT K a) H1
theorem pi_enumT {X : Cx} {e : Expr} {ta : TA} {p pos tpos : Pos} {elts : List Expr} {kk : Nat} (hg : Gl X "enumerate") (hm : X.mg "enumerate" = none) (ha : PA X [e] ta) (hs : starEach [e] X.env = [(false, eval e X.env)] := by rfl) :
    PI X (.Tuple elts kk tpos) (.Call (.Name "enumerate" p) [e] [] pos) (iEnumT X.K ta) := by
  refine ⟨fun pins s σ H R I h => ?_⟩
  refine Call_ (ld_blt I hg hm boot_enumerate (PyProof.Rows.callWith_type1 (thn (ha.run pos pins s σ H _ I h) fun us s1 ⟨vs, H1, I1, r1, q1⟩ => ?_) hs rfl))
  obtain ⟨a, xs, ex, hq, q⟩ := q1
  subst ex
  cases r1 with
  | cons r rr =>
    cases rr
    cases r
    obtain ⟨its, rv, p', hz⟩ := I1.tuple hq
    refine call_enumerate_tup (show s1.heap.IsTuple a its.toArray from p') fun h' he hit hsz hk => wpAny_pyIter_enum he ?_
    have I2 : Inv X pins σ H1 { s1 with heap := h' } := I1.kept (t' := s1.toks) hk
    refine ⟨s1.heap.objs.size + 1, [s1.heap.objs.size + 1, s1.heap.objs.size], _, _, H1, rfl, I2, turn_enumT a (s1.heap.objs.size + 1) s1.heap.objs.size, ⟨⟨.none, he⟩, hit, Nat.succ_ne_self _⟩, fun b hb => ?_, q⟩
    have e' : b = s1.heap.objs.size + 1 ∨ b = s1.heap.objs.size := by simpa using hb
    have hle : s1.heap.objs.size ≤ b := by
      rcases e' with z | z
      · rw [z]; exact Nat.le_add_right _ _
      · rw [z]; exact Nat.le_refl _
    exact I1.fpOk hle (I1.hok.fresh hle)
end G
end

/-! E9: for i, x in enumerate(..): a statement's rule. -/
namespace G
open PySem PySem.Spec PyProof.Rows L2 PySem.W
section
variable {Y : YC} {Γ : List Cell} {te : TE} {α : Type} {d : Dat α} {k : Ks} {ts : TS} {g : TG}
def enumI {α : Type} (xs : List α) (i : Nat) : Option (Int × α) := xs[i]?.map fun x => ((i : Int), x)
theorem z_enumT (h : W Y te Γ (dTup (d := d)) fun xs => Body Y g ts (dPair (d1 := dInt) (d2 := d)) k (enumI xs.l) xs.l.length Γ) : Z Y (tFor (iEnumT Y.K (tCons te tNil)) g ts) Γ k := fun e F σ H D hM s c => h e F σ H s _ fun v F1 H1 xs ⟨I, h0, hs, hd⟩ g1 ⟨a, vs, e1, hq, r⟩ => by
  subst e1
  have s1 := s.grow g1
  obtain ⟨hx1, L1, kw1, _⟩ := id s1
  have c1 := c.into hx1 kw1
  have hqT : ∀ {H' : Hp} {F' : Hp}, Same F1 F' → Same F' H' → SqT Y.K H' a vs := fun s1 s2 => (hq.mono (s1.trans s2)).sq
  refine ⟨a, vs, rfl, hqT (Same.refl _) g1.fh, fun i m σ H => m = vs.length - i ∧ i ≤ vs.length ∧ ∃ F' Γ', State Y ⟨F1, e.H0, e.M⟩ F' σ H Γ' ∧ I i Γ', ⟨vs.length, rfl, Nat.zero_le _, F1, Γ, s1.into, h0⟩, fun i m σ H ⟨hm0, hi, F', Γ', st, hI⟩ => ?_⟩
  have hq' := hqT st.ff st.fh
  by_cases hlt : i < vs.length
  · right
    have hw : vs[i]? = some vs[i] := by simp [hlt]
    generalize vs[i] = w at hw
    obtain ⟨x, hx, rx⟩ := r.getV hw
    refine ⟨⟨vs, w, hq', hw⟩, fun σ' H' => ∃ F3 Γ3, State Y ⟨F1, e.H0, e.M⟩ F3 σ' H' Γ3 ∧ I (i + 1) Γ3, fun σ' H' ⟨F3, Γ3, s3, i3⟩ => ⟨vs.length - (i + 1), by omega, rfl, by omega, F3, Γ3, s3, i3⟩, fun x0 H' ⟨T, x', e2, hT, e3, hall⟩ => ?_⟩
    subst e2 e3
    have ex : x' = w := by
      have := hall vs hq'
      rw [hw] at this
      exact (Option.some.inj this).symm
    subst ex
    have gr : Gr F' H (upd F' T (.tup [.int (i : Nat), x'])) (upd H T (.tup [.int (i : Nat), x'])) := st.base.lay hT
    have st' := st.grow gr
    refine hs i ((i : Int), x) Γ' (by unfold enumI; rw [hx]; rfl) hI _ _ σ _ _ st' ⟨T, .int (i : Nat), x', rfl, .inl upd_same, rfl, d.mono (st.ff.trans gr.ff) rx⟩ _ fun σ2 Γ2 h2 st2 => ?_
    exact h2 ⟨F1, e.H0, e.M⟩ _ σ2 _ _ hM st2 ⟨fun F3 σ3 H3 Γ3 k3 st3 => ⟨F3, Γ3, st3, k3⟩, c1.rt, c1.nx, fun F3 σ3 H3 Γ3 k3 st3 => ⟨F3, Γ3, st3, k3⟩⟩
  · left
    have hi2 : i = xs.l.length := by rw [← r.len]; omega
    subst hi2
    exact ⟨⟨vs, hq', by rw [r.len]; exact Nat.le_refl _⟩, c1.nx F' σ H Γ' (hd Γ' hI) st⟩
theorem z_enum (h : W Y te Γ (dList (d := d)) fun xs => Body Y g ts (dPair (d1 := dInt) (d2 := d)) k (enumI xs) xs.length Γ) : Z Y (tFor (iEnum Y.K (tCons te tNil)) g ts) Γ k := fun e F σ H D hM s c => h e F σ H s _ fun v F1 H1 xs ⟨I, h0, hs, hd⟩ g1 ⟨a, vs, e1, hq, r⟩ => by
  subst e1
  have s1 := s.grow g1
  obtain ⟨hx1, L1, kw1, _⟩ := id s1
  have c1 := c.into hx1 kw1
  have hqT : ∀ {H' : Hp} {F' : Hp}, Same F1 F' → Same F' H' → SqL Y.K H' a vs := fun s1 s2 => (s1.trans s2).seq hq
  refine ⟨a, vs, rfl, hqT (Same.refl _) g1.fh, fun i m σ H => m = vs.length - i ∧ i ≤ vs.length ∧ ∃ F' Γ', State Y ⟨F1, e.H0, e.M⟩ F' σ H Γ' ∧ I i Γ', ⟨vs.length, rfl, Nat.zero_le _, F1, Γ, s1.into, h0⟩, fun i m σ H ⟨hm0, hi, F', Γ', st, hI⟩ => ?_⟩
  have hq' := hqT st.ff st.fh
  by_cases hlt : i < vs.length
  · right
    have hw : vs[i]? = some vs[i] := by simp [hlt]
    generalize vs[i] = w at hw
    obtain ⟨x, hx, rx⟩ := r.getV hw
    refine ⟨⟨vs, w, hq', hw⟩, fun σ' H' => ∃ F3 Γ3, State Y ⟨F1, e.H0, e.M⟩ F3 σ' H' Γ3 ∧ I (i + 1) Γ3, fun σ' H' ⟨F3, Γ3, s3, i3⟩ => ⟨vs.length - (i + 1), by omega, rfl, by omega, F3, Γ3, s3, i3⟩, fun x0 H' ⟨T, x', e2, hT, e3, hall⟩ => ?_⟩
    subst e2 e3
    have ex : x' = w := by
      have := hall vs hq'
      rw [hw] at this
      exact (Option.some.inj this).symm
    subst ex
    have gr : Gr F' H (upd F' T (.tup [.int (i : Nat), x'])) (upd H T (.tup [.int (i : Nat), x'])) := st.base.lay hT
    have st' := st.grow gr
    refine hs i ((i : Int), x) Γ' (by unfold enumI; rw [hx]; rfl) hI _ _ σ _ _ st' ⟨T, .int (i : Nat), x', rfl, .inl upd_same, rfl, d.mono (st.ff.trans gr.ff) rx⟩ _ fun σ2 Γ2 h2 st2 => ?_
    exact h2 ⟨F1, e.H0, e.M⟩ _ σ2 _ _ hM st2 ⟨fun F3 σ3 H3 Γ3 k3 st3 => ⟨F3, Γ3, st3, k3⟩, c1.rt, c1.nx, fun F3 σ3 H3 Γ3 k3 st3 => ⟨F3, Γ3, st3, k3⟩⟩
  · left
    have hi2 : i = xs.length := by rw [← r.len]; omega
    subst hi2
    exact ⟨⟨vs, hq', by rw [r.len]; exact Nat.le_refl _⟩, c1.nx F' σ H Γ' (hd Γ' hI) st⟩
end
end G

noncomputable section
/-! M0: the monad of the models, judgements that tie readings to models. -/
namespace G
open PySem L2

/-- the classes of the exceptions -/
inductive XC where
  | NotAPairing | NothingToUndo | NothingToRedo | BadLabel | NameTaken | NoSuchName | StillTied | ComesapartError | TooLarge | BadLine | UnknownPlace | BadSides | UnknownSide | UnknownTie | BadStep | Repeated | NotATurningCycle | UnknownPoint | UnknownPair | SamePoint | NoLinks | BadLink | BadNode | UnknownTerm | NotSameSteps | NoFacing | NotARing | NotAJoint | NotShut | BadCut | NoSuchCut | Locked | Nothing | BadName | BadSign | BadMove | NoTerm | NeverOpened | BoundTwice | UnknownName | UsedTwice | NotUsed | NotARedex | NotBalanced | NotAnArrow | NotAPermutation | BadSetting | BadSigns | BadChoice | NotOuter
  deriving DecidableEq
/-- an exception of a model: its class by name, its attributes -/
structure PX where
  cls : XC
  fs : Option (List (Str × V))
  deriving DecidableEq
/-- what a piece of a model gives: a value, an exception, or nothing that is spoken of -/
inductive M (α : Type) where
  | ok (x : α) : M α
  | exc (x : PX) : M α
  | bad : M α
instance : Monad M where
  pure := M.ok
  bind m f := match m with | .ok x => f x | .exc x => .exc x | .bad => .bad
namespace M
variable {α β γ : Type}
@[simp] theorem ok_bind (x : α) (f : α → M β) : (M.ok x >>= f) = f x := rfl
@[simp] theorem exc_bind (x : PX) (f : α → M β) : (M.exc x >>= f) = .exc x := rfl
@[simp] theorem bad_bind (f : α → M β) : ((M.bad : M α) >>= f) = .bad := rfl
@[simp] theorem pure_ok (x : α) : (pure x : M α) = .ok x := rfl
@[simp] theorem assoc (m : M α) (f : α → M β) (g : β → M γ) : ((m >>= f) >>= g) = (m >>= fun x => f x >>= g) := by cases m <;> rfl
@[simp] theorem bind_ok (m : M α) : (m >>= M.ok) = m := by cases m <;> rfl
def nb (m : M α) : Prop := m ≠ .bad
theorem nb1 {m : M α} {f : α → M β} (h : (m >>= f).nb) : m.nb := fun z => h (by rw [z]; rfl)
theorem nb2 {m : M α} {f : α → M β} {x : α} (h : (m >>= f).nb) (e : m = .ok x) : (f x).nb := fun z => h (by rw [e]; exact z)
/-- a guard: m where p holds (the choice is Classical: nothing is to be reckoned out) -/
def asrt (p : Prop) (m : M α) : M α := @ite _ p (Classical.propDecidable p) m .bad
theorem asrt_pos {p : Prop} {m : M α} (h : p) : asrt p m = m := @if_pos p (Classical.propDecidable p) h _ _ _
theorem asrt_nb {p : Prop} {m : M α} (h : (asrt p m).nb) : p := by
  unfold asrt at h
  split at h
  · assumption
  · exact absurd rfl h
def ofO : Option α → M α
  | some x => .ok x
  | none => .bad
@[simp] theorem ofO_some (x : α) : ofO (some x) = .ok x := rfl
/-- xs.append(y) -/
def push (xs : List α) (m : M α) : M (List α) := m >>= fun y => asrt (xs.length < PySem.sizeLine) (.ok (xs ++ [y]))
theorem push_ok {xs : List α} {y : α} (h : xs.length < PySem.sizeLine) : push xs (.ok y) = .ok (xs ++ [y]) := asrt_pos h
/-- xs[i] -/
def ix (xs : List α) (i : Int) : M α := ofO (atI xs i)
/-- range(n), range(a, b) -/
def range (n : Int) : M (List Int) := asrt (-(2 ^ 62) ≤ n ∧ n ≤ PySem.sizeLine) (.ok (rngL 0 n.toNat))
def range2 (a b : Int) : M (List Int) := asrt (-(2 ^ 62) ≤ a ∧ a < 2 ^ 62 ∧ -(2 ^ 62) ≤ b ∧ b < 2 ^ 62 ∧ b - a ≤ PySem.sizeLine) (.ok (rngL a (b - a).toNat))
/-- for x in xs, nothing leaves it early -/
def fold {σ : Type} (f : σ → α → M σ) : σ → List α → M σ
  | s, [] => .ok s
  | s, x :: xs => f s x >>= fun s' => fold f s' xs
theorem fold_snoc {σ : Type} (f : σ → α → M σ) (x : α) : ∀ (xs : List α) (s : σ), fold f s (xs ++ [x]) = (fold f s xs >>= fun s' => f s' x)
  | [], s => by simp [fold]
  | y :: xs, s => by simp only [List.cons_append, fold, assoc]; congr 1; funext s'; exact fold_snoc f x xs s'
end M
/-- the end of a turn -/
inductive Ct (σ ρ : Type) where
  | nx (s : σ) : Ct σ ρ
  | rt (r : ρ) : Ct σ ρ
  | bk (s : σ) : Ct σ ρ
/-- behind a loop -/
def Ct.go {σ ρ τ : Type} (c : Ct σ ρ) (r : ρ → M τ) (n : σ → M τ) : M τ := match c with | .nx s => n s | .rt x => r x | .bk s => n s
namespace M
variable {α β γ σ ρ : Type}
/-- for x in xs, with returns or breaks -/
def foldC (f : σ → α → M (Ct σ ρ)) : σ → List α → M (Ct σ ρ)
  | s, [] => .ok (.nx s)
  | s, x :: xs => f s x >>= fun c => match c with | .nx s' => foldC f s' xs | c => .ok c
/-- n turns of a while, at most -/
def loopN (c : σ → M Bool) (f : σ → M σ) : Nat → σ → M σ
  | 0, _ => .bad
  | n + 1, s => c s >>= fun b => if b then f s >>= loopN c f n else .ok s
open Classical in
noncomputable def loop (c : σ → M Bool) (f : σ → M σ) (s : σ) : M σ := if h : ∃ n, loopN c f n s ≠ .bad then loopN c f h.choose s else .bad
theorem loopN_mono (c : σ → M Bool) (f : σ → M σ) : ∀ (n m : Nat) (s : σ), n ≤ m → loopN c f n s ≠ .bad → loopN c f m s = loopN c f n s
  | 0, _, _, _, h => absurd rfl h
  | n + 1, 0, _, hm, _ => absurd hm (by omega)
  | n + 1, m + 1, s, hm, h => by
    unfold loopN at h ⊢
    cases hc : c s with
    | bad => rfl
    | exc x => rfl
    | ok b =>
      rw [hc] at h
      simp only [ok_bind] at h ⊢
      cases b with
      | false => rfl
      | true =>
        simp only [if_true] at h ⊢
        cases hf : f s with
        | bad => rfl
        | exc x => rfl
        | ok s' =>
          rw [hf] at h
          exact loopN_mono c f n m s' (by omega) h
theorem loop_of {c : σ → M Bool} {f : σ → M σ} {s : σ} {n : Nat} (h : loopN c f n s ≠ .bad) : loop c f s = loopN c f n s := by
  have hx : ∃ n, loopN c f n s ≠ .bad := ⟨n, h⟩
  unfold loop
  rw [dif_pos hx]
  rcases Nat.le_total n hx.choose with hl | hl
  · exact loopN_mono c f _ _ s hl h
  · exact (loopN_mono c f _ _ s hl hx.choose_spec).symm
theorem loop_nb {c : σ → M Bool} {f : σ → M σ} {s : σ} (h : (loop c f s).nb) : ∃ n, loopN c f n s ≠ .bad ∧ loop c f s = loopN c f n s := by
  by_cases hx : ∃ n, loopN c f n s ≠ .bad
  · obtain ⟨n, hn⟩ := hx
    exact ⟨n, hn, loop_of hn⟩
  · exact absurd (by unfold loop; rw [dif_neg hx]) h
/-- the turn of a while -/
theorem loop_eq (c : σ → M Bool) (f : σ → M σ) (s : σ) : loop c f s = (c s >>= fun b => if b then f s >>= loop c f else .ok s) := by
  by_cases hx : ∃ n, loopN c f n s ≠ .bad
  · obtain ⟨n, hn⟩ := hx
    rw [loop_of hn]
    cases n with
    | zero => exact absurd rfl hn
    | succ n =>
      unfold loopN at hn ⊢
      cases hc : c s with
      | bad => rfl
      | exc x => rfl
      | ok b =>
        rw [hc] at hn
        simp only [ok_bind] at hn ⊢
        cases b with
        | false => rfl
        | true =>
          simp only [if_true] at hn ⊢
          cases hf : f s with
          | bad => rfl
          | exc x => rfl
          | ok s' =>
            rw [hf] at hn
            simp only [ok_bind] at hn ⊢
            exact (loop_of hn).symm
  · have e1 : loop c f s = .bad := by unfold loop; rw [dif_neg hx]
    rw [e1]
    cases hc : c s with
    | bad => rfl
    | exc x => exact absurd ⟨1, by unfold loopN; rw [hc]; exact fun z => nomatch z⟩ hx
    | ok b =>
      simp only [ok_bind]
      cases b with
      | false => exact absurd ⟨1, by unfold loopN; rw [hc]; exact fun z => nomatch z⟩ hx
      | true =>
        simp only [if_true]
        cases hf : f s with
        | bad => rfl
        | exc x => exact absurd ⟨1, by unfold loopN; rw [hc]; simp only [ok_bind, if_true]; rw [hf]; exact fun z => nomatch z⟩ hx
        | ok s' =>
          simp only [ok_bind]
          by_cases hy : ∃ n, loopN c f n s' ≠ .bad
          · obtain ⟨n, hn⟩ := hy
            exact absurd ⟨n + 1, by unfold loopN; rw [hc]; simp only [ok_bind, if_true]; rw [hf]; exact hn⟩ hx
          · unfold loop; rw [dif_neg hy]
/-- no exception comes out of it -/
def calm : M α → M α
  | .exc _ => .bad
  | m => m
@[simp] theorem calm_of_ok (x : α) : calm (.ok x : M α) = .ok x := rfl
theorem calm_nb {m : M α} (h : (calm m).nb) : ∃ x, m = .ok x := by
  cases m with
  | ok x => exact ⟨x, rfl⟩
  | exc x => exact absurd rfl h
  | bad => exact absurd rfl h
/-- [f x for x in xs if p x] -/
def comp (p : α → M Bool) (f : α → M β) : List α → M (List β)
  | [] => .ok []
  | x :: xs => calm (p x) >>= fun b => if b then calm (f x) >>= fun y => comp p f xs >>= fun ys => .ok (y :: ys) else comp p f xs
theorem comp_app (p : α → M Bool) (f : α → M β) : ∀ (xs ys : List α), comp p f (xs ++ ys) = (comp p f xs >>= fun a => comp p f ys >>= fun b => .ok (a ++ b))
  | [], ys => by simp [comp]
  | x :: xs, ys => by
    simp only [List.cons_append, comp, assoc]
    cases calm (p x) with
    | bad => rfl
    | exc x => rfl
    | ok b =>
      simp only [ok_bind]
      cases b with
      | false => exact comp_app p f xs ys
      | true =>
        simp only [if_true, assoc]
        cases calm (f x) with
        | bad => rfl
        | exc x => rfl
        | ok y =>
          simp only [ok_bind]
          rw [comp_app p f xs ys]
          cases comp p f xs <;> cases comp p f ys <;> rfl
theorem comp_ok (p : α → Bool) (f : α → β) : ∀ xs : List α, comp (fun x => .ok (p x)) (fun x => .ok (f x)) xs = .ok ((xs.filter p).map f)
  | [] => rfl
  | x :: xs => by
    simp only [comp, calm_of_ok, ok_bind]
    cases h : p x with
    | true => rw [if_pos rfl, comp_ok p f xs, List.filter_cons_of_pos h]; rfl
    | false => rw [if_neg (by simp), comp_ok p f xs, List.filter_cons_of_neg (by simp [h])]
theorem comp_map (f : α → β) (xs : List α) : comp (fun _ => .ok true) (fun x => .ok (f x)) xs = .ok (xs.map f) := by
  rw [comp_ok (fun _ => true) f xs]
  congr 2
  exact List.filter_eq_self.mpr fun _ _ => rfl
/-- what each turn gives, told for the items -/
theorem comp_of {p : α → M Bool} {f : α → M β} (p' : α → Bool) (f' : α → β) : ∀ xs : List α, (∀ x ∈ xs, p x = .ok (p' x)) → (∀ x ∈ xs, p' x = true → f x = .ok (f' x)) → comp p f xs = .ok ((xs.filter p').map f')
  | [], _, _ => rfl
  | x :: xs, h1, h2 => by
    have ih := comp_of p' f' xs (fun y hy => h1 y (List.mem_cons_of_mem _ hy)) fun y hy => h2 y (List.mem_cons_of_mem _ hy)
    simp only [comp]
    rw [h1 x List.mem_cons_self]
    simp only [calm_of_ok, ok_bind]
    cases h : p' x with
    | true => rw [if_pos rfl, h2 x List.mem_cons_self h, ih, List.filter_cons_of_pos h]; rfl
    | false => rw [if_neg (by simp), ih, List.filter_cons_of_neg (by simp [h])]
theorem fold_app {σ : Type} (f : σ → α → M σ) : ∀ (xs ys : List α) (s : σ), fold f s (xs ++ ys) = (fold f s xs >>= fun s' => fold f s' ys)
  | [], ys, s => by simp [fold]
  | x :: xs, ys, s => by
    simp only [List.cons_append, fold, assoc]
    congr 1; funext s'; exact fold_app f xs ys s'
theorem foldC_app (f : σ → α → M (Ct σ ρ)) : ∀ (xs ys : List α) (s : σ), foldC f s (xs ++ ys) = (foldC f s xs >>= fun c => match c with | .nx s' => foldC f s' ys | c => .ok c)
  | [], ys, s => by simp [foldC]
  | x :: xs, ys, s => by
    simp only [List.cons_append, foldC, assoc]
    congr 1; funext c
    cases c with
    | nx s' => exact foldC_app f xs ys s'
    | rt r => rfl
    | bk s' => rfl
/-- no turn leaves -/
theorem foldC_unit {f : Unit → α → M (Ct Unit ρ)} : ∀ xs : List α, (∀ x ∈ xs, f () x = .ok (.nx ())) → foldC f () xs = .ok (.nx ())
  | [], _ => rfl
  | x :: xs, h => by
    simp only [foldC]
    rw [h x List.mem_cons_self]
    exact foldC_unit xs fun y hy => h y (List.mem_cons_of_mem _ hy)
/-- enumerate(xs) -/
def enumL (xs : List α) : List (Int × α) := xs.zipIdx.map fun p => ((p.2 : Int), p.1)
theorem enumL_get (xs : List α) (i : Nat) : enumI xs i = (enumL xs)[i]? := by
  unfold enumI enumL
  rw [List.getElem?_map, List.getElem?_zipIdx]
  cases xs[i]? <;> simp
theorem enumL_len (xs : List α) : (enumL xs).length = xs.length := by simp [enumL]
end M

/-! ### judgements -/
/-- a model's exception over the classes' places -/
def PX.x (tx : XC → Addr) (x : PX) : Exn := ⟨tx x.cls, x.fs⟩
section
variable (tx : XC → Addr) (Y : YC)
def XkM {α : Type} (Γ : List Cell) (m : M α) : Prop := ∀ x, m = .exc x → Y.kx (x.x tx) Γ
/-- the term evaluates to frozen data as the model says -/
def We (te : TE) (Γ : List Cell) {α : Type} (d : Dat α) (m : M α) : Prop := m.nb → XkM tx Y Γ m → W Y te Γ d (m = .ok ·)
def Re (te : TE) (Γ : List Cell) {α : Type} (d : Dat α) (m : M α) : Prop := m.nb → XkM tx Y Γ m → R Y te Γ d (m = .ok ·)
def Oe (te : TE) (Γ : List Cell) {α : Type} {d : Dat α} (od : OD α) (m : M α) : Prop := m.nb → XkM tx Y Γ m → O Y te Γ od (m = .ok ·)
def Te (t : TT) (Γ : List Cell) (m : M Bool) : Prop := m.nb → XkM tx Y Γ m → T Y t Γ (m = .ok ·)
end
section
variable {tx : XC → Addr} {Y : YC} {Γ : List Cell} {te ta tb tc td : TE} {t u : TT} {α β γ δ ε : Type} {d : Dat α} {d1 : Dat α} {d2 : Dat β} {d3 : Dat γ}
theorem XkM.l {m : M α} {f : α → M β} (h : XkM tx Y Γ (m >>= f)) : XkM tx Y Γ m := fun x e => h x (by rw [e]; rfl)
theorem XkM.r {m : M α} {f : α → M β} {x : α} (h : XkM tx Y Γ (m >>= f)) (e : m = .ok x) : XkM tx Y Γ (f x) := fun y e2 => h y (by rw [e]; exact e2)
theorem XkM.ok {x : α} : XkM tx Y Γ (M.ok x) := fun _ z => nomatch z
theorem we_eq {m m' : M α} (h : We tx Y te Γ d m) (e : m = m') : We tx Y te Γ d m' := e ▸ h
theorem re_eq {m m' : M α} (h : Re tx Y te Γ d m) (e : m = m') : Re tx Y te Γ d m' := e ▸ h
theorem oe_eq {od : @OD α d} {m m' : M α} (h : Oe tx Y te Γ od m) (e : m = m') : Oe tx Y te Γ od m' := e ▸ h
theorem te_eq {m m' : M Bool} (h : Te tx Y t Γ m) (e : m = m') : Te tx Y t Γ m' := e ▸ h
theorem o_mono {od : @OD α d} {k k' : α → Prop} (h : O Y te Γ od k) (m : ∀ x, k x → k' x) : O Y te Γ od k' := fun e F σ H s Q q => h e F σ H s Q fun v F' H' L x kx g r => q v F' H' L x (m x kx) g r
theorem re_w {m : M α} (h : We tx Y te Γ d m) : Re tx Y te Γ d m := fun nb xk => r_of_w (h nb xk)
theorem we_o {od : @OD α d} {m : M α} (h : Oe tx Y te Γ od m) : We tx Y te Γ d m := fun nb xk => w_of_o (h nb xk)
theorem we_r [i : @Imm α d] {m : M α} (h : Re tx Y te Γ d m) : We tx Y te Γ d m := fun nb xk => w_of_r (h nb xk)
/-- one part read, then the rest -/
theorem Re.k {m : M α} {f : α → M β} {k : α → Prop} (h : Re tx Y te Γ d m) (nb : (m >>= f).nb) (xk : XkM tx Y Γ (m >>= f)) (g : ∀ x, m = .ok x → (f x).nb → XkM tx Y Γ (f x) → k x) : R Y te Γ d k :=
  r_mono (h (M.nb1 nb) xk.l) fun x e => g x e (M.nb2 nb e) (xk.r e)
theorem We.k {m : M α} {f : α → M β} {k : α → Prop} (h : We tx Y te Γ d m) (nb : (m >>= f).nb) (xk : XkM tx Y Γ (m >>= f)) (g : ∀ x, m = .ok x → (f x).nb → XkM tx Y Γ (f x) → k x) : W Y te Γ d k :=
  w_mono (h (M.nb1 nb) xk.l) fun x e => g x e (M.nb2 nb e) (xk.r e)
theorem Oe.k {od : @OD α d} {m : M α} {f : α → M β} {k : α → Prop} (h : Oe tx Y te Γ od m) (nb : (m >>= f).nb) (xk : XkM tx Y Γ (m >>= f)) (g : ∀ x, m = .ok x → (f x).nb → XkM tx Y Γ (f x) → k x) : O Y te Γ od k :=
  o_mono (h (M.nb1 nb) xk.l) fun x e => g x e (M.nb2 nb e) (xk.r e)
theorem Te.k {m : M Bool} {f : Bool → M β} {k : Bool → Prop} (h : Te tx Y t Γ m) (nb : (m >>= f).nb) (xk : XkM tx Y Γ (m >>= f)) (g : ∀ x, m = .ok x → (f x).nb → XkM tx Y Γ (f x) → k x) : T Y t Γ k :=
  t_mono (h (M.nb1 nb) xk.l) fun x e => g x e (M.nb2 nb e) (xk.r e)
/-! shapes of rules -/
theorem we_p1 {f : α → β} {m : M α} (rule : ∀ k : β → Prop, (R Y ta Γ d1 fun x => k (f x)) → W Y te Γ d2 k) (h : Re tx Y ta Γ d1 m) : We tx Y te Γ d2 (m >>= fun x => .ok (f x)) := fun nb xk =>
  rule _ (h.k nb xk fun x e _ _ => by rw [e]; rfl)
theorem we_p1w {f : α → β} {m : M α} (rule : ∀ k : β → Prop, (W Y ta Γ d1 fun x => k (f x)) → W Y te Γ d2 k) (h : We tx Y ta Γ d1 m) : We tx Y te Γ d2 (m >>= fun x => .ok (f x)) := fun nb xk =>
  rule _ (h.k nb xk fun x e _ _ => by rw [e]; rfl)
theorem oe_p1 {od : @OD β d2} {f : α → β} {m : M α} (rule : ∀ k : β → Prop, (R Y ta Γ d1 fun x => k (f x)) → O Y te Γ od k) (h : Re tx Y ta Γ d1 m) : Oe tx Y te Γ od (m >>= fun x => .ok (f x)) := fun nb xk =>
  rule _ (h.k nb xk fun x e _ _ => by rw [e]; rfl)
theorem oe_p1w {od : @OD β d2} {f : α → β} {m : M α} (rule : ∀ k : β → Prop, (W Y ta Γ d1 fun x => k (f x)) → O Y te Γ od k) (h : We tx Y ta Γ d1 m) : Oe tx Y te Γ od (m >>= fun x => .ok (f x)) := fun nb xk =>
  rule _ (h.k nb xk fun x e _ _ => by rw [e]; rfl)
theorem we_p2 {f : α → β → γ} {m : M α} {n : M β} (rule : ∀ k : γ → Prop, (R Y ta Γ d1 fun x => R Y tb Γ d2 fun y => k (f x y)) → W Y te Γ d3 k) (h : Re tx Y ta Γ d1 m) (h2 : Re tx Y tb Γ d2 n) : We tx Y te Γ d3 (m >>= fun x => n >>= fun y => .ok (f x y)) := fun nb xk =>
  rule _ (h.k nb xk fun x e nb xk => h2.k nb xk fun y e2 _ _ => by rw [e]; show (n >>= _) = _; rw [e2]; rfl)
/-- a guarded operator -/
theorem we_g2 {P : α → β → Prop} [∀ x y, Decidable (P x y)] {f : α → β → γ} {m : M α} {n : M β} (rule : ∀ k : γ → Prop, (R Y ta Γ d1 fun x => R Y tb Γ d2 fun y => P x y ∧ k (f x y)) → W Y te Γ d3 k) (h : Re tx Y ta Γ d1 m) (h2 : Re tx Y tb Γ d2 n) : We tx Y te Γ d3 (m >>= fun x => n >>= fun y => M.asrt (P x y) (.ok (f x y))) := fun nb xk =>
  rule _ (h.k nb xk fun x e nb xk => h2.k nb xk fun y e2 nb2 _ => ⟨M.asrt_nb nb2, by rw [e]; show (n >>= _) = _; rw [e2]; show M.asrt _ _ = _; rw [M.asrt_pos (M.asrt_nb nb2)]⟩)
/-- an item looked up -/
theorem we_l2 {f : α → β → Option γ} {m : M α} {n : M β} (rule : ∀ k : γ → Prop, (W Y ta Γ d1 fun x => R Y tb Γ d2 fun y => ∃ z, f x y = some z ∧ k z) → W Y te Γ d3 k) (h : We tx Y ta Γ d1 m) (h2 : Re tx Y tb Γ d2 n) : We tx Y te Γ d3 (m >>= fun x => n >>= fun y => M.ofO (f x y)) := fun nb xk =>
  rule _ (h.k nb xk fun x e nb xk => h2.k nb xk fun y e2 nb2 _ => by
    cases q : f x y with
    | none => rw [q] at nb2; exact absurd rfl nb2
    | some z => exact ⟨z, rfl, by rw [e]; show (n >>= _) = _; rw [e2]; show M.ofO _ = _; rw [q]; rfl⟩)
theorem re_l2 {f : α → β → Option γ} {m : M α} {n : M β} (rule : ∀ k : γ → Prop, (R Y ta Γ d1 fun x => R Y tb Γ d2 fun y => ∃ z, f x y = some z ∧ k z) → R Y te Γ d3 k) (h : Re tx Y ta Γ d1 m) (h2 : Re tx Y tb Γ d2 n) : Re tx Y te Γ d3 (m >>= fun x => n >>= fun y => M.ofO (f x y)) := fun nb xk =>
  rule _ (h.k nb xk fun x e nb xk => h2.k nb xk fun y e2 nb2 _ => by
    cases q : f x y with
    | none => rw [q] at nb2; exact absurd rfl nb2
    | some z => exact ⟨z, rfl, by rw [e]; show (n >>= _) = _; rw [e2]; show M.ofO _ = _; rw [q]; rfl⟩)
end
end G
end

noncomputable section
/-! M1: the rules of expressions, with models. (printed in part by genM1.py) -/
namespace G
open PySem PySem.Spec PyProof.Rows L2 PySem.W
instance (i j : Int) : Decidable (CDiv i j) := inferInstanceAs (Decidable (_ ∧ _))
instance (i j : Int) : Decidable (CMul i j) := inferInstanceAs (Decidable (_ ∨ _))
instance (i j : Int) : Decidable (CPow i j) := inferInstanceAs (Decidable (_ ∧ _ ∧ _))
instance : @Flat Bool dBool := ⟨V.bl, fun h => h, fun _ => rfl, fun x y => by cases x <;> cases y <;> simp [eqV]⟩
section
variable {tx : XC → Addr} {Y : YC} {Γ : List Cell} {te ta tb tc td : TE} {t u : TT} {α β γ δ ε : Type} {d : Dat α} {d1 : Dat α} {d2 : Dat β} {d3 : Dat γ} {d4 : Dat δ}
theorem w_calm {k : α → Prop} (h : W (calm Y.g) te Γ d k) : W Y te Γ d k := fun e F σ H s Q q => h e F σ H ⟨fun _ _ _ _ _ _ z => z.elim, s.2⟩ Q q
theorem o_calm {od : @OD α d} {k : α → Prop} (h : O (calm Y.g) te Γ od k) : O Y te Γ od k := fun e F σ H s Q q => h e F σ H ⟨fun _ _ _ _ _ _ z => z.elim, s.2⟩ Q q
theorem t_calm {k : Bool → Prop} (h : T (calm Y.g) t Γ k) : T Y t Γ k := fun e F σ H s Q q => h e F σ H ⟨fun _ _ _ _ _ _ z => z.elim, s.2⟩ Q q
/-- an owned name read as if it were frozen -/
theorem we_borrow {od0 : @OD α d1} {x : α} {pin : Option V} [i : @Imm β d2] {m : M β} (j : Nat) (hj : Γ[j]? = some (.own d1 od0 pin x)) (h : We tx (calm Y.g) te (Γ.set j (.val d1 x)) d2 m) : We tx Y te Γ d2 (M.calm m) := fun nb xk => by
  obtain ⟨y, e⟩ := M.calm_nb nb
  subst e
  exact w_borrow j hj (h (fun z => nomatch z) XkM.ok)
/-! names, constants -/
theorem we_var {i : Nat} {x : α} (h : Γ[i]? = some (.val d x)) : We tx Y (tVar i) Γ d (.ok x) := fun _ _ => w_var h rfl
theorem re_varO {od : @OD α d} {pin : Option V} {i : Nat} {x : α} (h : Γ[i]? = some (.own d od pin x)) : Re tx Y (tVar i) Γ d (.ok x) := fun _ _ => r_varO h rfl
theorem we_int {n : Int} : We tx Y (tC (.int n)) Γ dInt (.ok n) := fun _ _ => w_int rfl
theorem we_bl {n : Bool} : We tx Y (tC (.bl n)) Γ dBool (.ok n) := fun _ _ => w_bl rfl
theorem we_nonO : We tx Y (tC .non) Γ (dOpt (d := d)) (.ok .none) := fun _ _ => w_nonO rfl
theorem we_some {m : M α} (h : We tx Y te Γ d m) : We tx Y te Γ (dOpt (d := d)) (m >>= fun x => .ok (.some x)) := we_p1w (fun k h => w_some h) h
/-! operators -/
theorem we_add {m n : M Int} (h : Re tx Y ta Γ dInt m) (h2 : Re tx Y tb Γ dInt n) : We tx Y (tOp (rI0 fun i j => .int (i + j)) ta tb) Γ dInt (m >>= fun x => n >>= fun y => .ok (x + y)) := we_p2 (fun k h => w_add h) h h2
theorem we_sub {m n : M Int} (h : Re tx Y ta Γ dInt m) (h2 : Re tx Y tb Γ dInt n) : We tx Y (tOp (rI0 fun i j => .int (i - j)) ta tb) Γ dInt (m >>= fun x => n >>= fun y => .ok (x - y)) := we_p2 (fun k h => w_sub h) h h2
theorem we_mul {m n : M Int} (h : Re tx Y ta Γ dInt m) (h2 : Re tx Y tb Γ dInt n) : We tx Y (tOp (rI CMul fun i j => .int (i * j)) ta tb) Γ dInt (m >>= fun x => n >>= fun y => M.asrt (CMul x y) (.ok (x * y))) := we_g2 (fun k h => w_mul h) h h2
theorem we_mod {m n : M Int} (h : Re tx Y ta Γ dInt m) (h2 : Re tx Y tb Γ dInt n) : We tx Y (tOp (rI (fun _ j => 0 < j) fun i j => .int (i % j)) ta tb) Γ dInt (m >>= fun x => n >>= fun y => M.asrt (0 < y) (.ok (x % y))) := we_g2 (P := fun _ y => 0 < y) (fun k h => w_mod h) h h2
theorem we_fdiv {m n : M Int} (h : Re tx Y ta Γ dInt m) (h2 : Re tx Y tb Γ dInt n) : We tx Y (tOp (rI CDiv fun i j => .int (i / j)) ta tb) Γ dInt (m >>= fun x => n >>= fun y => M.asrt (CDiv x y) (.ok (x / y))) := we_g2 (fun k h => w_fdiv h) h h2
theorem we_pow {m n : M Int} (h : Re tx Y ta Γ dInt m) (h2 : Re tx Y tb Γ dInt n) : We tx Y (tOp (rI CPow fun i j => .int (i ^ j.toNat)) ta tb) Γ dInt (m >>= fun x => n >>= fun y => M.asrt (CPow x y) (.ok (x ^ y.toNat))) := we_g2 (fun k h => w_pow h) h h2
theorem we_powC {a b c : Int} (h : Re tx Y ta Γ dInt (.ok a)) (h2 : Re tx Y tb Γ dInt (.ok b)) (hc : CPow a b ∧ a ^ b.toNat = c) : We tx Y (tOp (rI CPow fun i j => .int (i ^ j.toNat)) ta tb) Γ dInt (.ok c) := we_eq (we_pow h h2) (by show M.asrt _ _ = _; rw [M.asrt_pos hc.1, hc.2])
theorem we_neg {m : M Int} (h : Re tx Y ta Γ dInt m) : We tx Y (tUn (rU fun i => .int (-i)) ta) Γ dInt (m >>= fun x => .ok (-x)) := we_p1 (fun k h => w_neg h) h
theorem we_lt {m n : M Int} (h : Re tx Y ta Γ dInt m) (h2 : Re tx Y tb Γ dInt n) : We tx Y (tOp (rI0 fun i j => .bl (decide (i < j))) ta tb) Γ dBool (m >>= fun x => n >>= fun y => .ok (decide (x < y))) := we_p2 (fun k h => w_lt h) h h2
theorem we_gt {m n : M Int} (h : Re tx Y ta Γ dInt m) (h2 : Re tx Y tb Γ dInt n) : We tx Y (tOp (rI0 fun i j => .bl (decide (j < i))) ta tb) Γ dBool (m >>= fun x => n >>= fun y => .ok (decide (y < x))) := we_p2 (fun k h => w_gt h) h h2
theorem we_ge {m n : M Int} (h : Re tx Y ta Γ dInt m) (h2 : Re tx Y tb Γ dInt n) : We tx Y (tOp (rI0 fun i j => .bl (decide (j ≤ i))) ta tb) Γ dBool (m >>= fun x => n >>= fun y => .ok (decide (y ≤ x))) := we_p2 (fun k h => w_ge h) h h2
/-- scalars of one kind, compared -/
class Sc (α : Type) [d : Dat α] where
  enc : α → V
  isEnc : ∀ {C : GCtx} {F : Hp} {v : V} {x : α}, d.rep C F v x → v = enc x
  scal : ∀ x y, L2.scal (enc x) (enc y) = true
  inj : ∀ x y, enc x = enc y → x = y
instance : Sc Int := ⟨V.int, fun h => h, fun _ _ => rfl, fun _ _ h => V.int.inj h⟩
instance : Sc Bool := ⟨V.bl, fun h => h, fun _ _ => rfl, fun _ _ h => V.bl.inj h⟩
instance : Sc Str := ⟨V.str, fun h => h, fun _ _ => rfl, fun _ _ h => V.str.inj h⟩
theorem w_eqS [s : @Sc α d] [DecidableEq α] {kb : Bool → Prop} (h : R Y ta Γ d fun x => R Y tb Γ d fun y => kb (decide (x = y))) : W Y (tOp rEq ta tb) Γ dBool kb := fun e F σ H st Q q => h e F σ H st _ fun v1 F1 H1 x h1 g1 r1 => h1 e F1 σ H1 (st.grow g1) _ fun v2 F2 H2 y ky g2 r2 => by
  cases s.isEnc r1
  cases s.isEnc r2
  exact ⟨s.scal x y, q _ F2 H2 _ ky (g1.trans0 g2) (by show V.bl _ = V.bl _; rw [decide_eq_decide.mpr ⟨s.inj x y, fun z => by rw [z]⟩])⟩
theorem w_neS [s : @Sc α d] [DecidableEq α] {kb : Bool → Prop} (h : R Y ta Γ d fun x => R Y tb Γ d fun y => kb (!decide (x = y))) : W Y (tOp rNe ta tb) Γ dBool kb := fun e F σ H st Q q => h e F σ H st _ fun v1 F1 H1 x h1 g1 r1 => h1 e F1 σ H1 (st.grow g1) _ fun v2 F2 H2 y ky g2 r2 => by
  cases s.isEnc r1
  cases s.isEnc r2
  exact ⟨s.scal x y, q _ F2 H2 _ ky (g1.trans0 g2) (by show V.bl _ = V.bl _; rw [decide_eq_decide.mpr ⟨s.inj x y, fun z => by rw [z]⟩])⟩
theorem we_eqS [s : @Sc α d] [DecidableEq α] {m n : M α} (h : Re tx Y ta Γ d m) (h2 : Re tx Y tb Γ d n) : We tx Y (tOp rEq ta tb) Γ dBool (m >>= fun x => n >>= fun y => .ok (decide (x = y))) := we_p2 (fun k h => w_eqS h) h h2
theorem we_neS [s : @Sc α d] [DecidableEq α] {m n : M α} (h : Re tx Y ta Γ d m) (h2 : Re tx Y tb Γ d n) : We tx Y (tOp rNe ta tb) Γ dBool (m >>= fun x => n >>= fun y => .ok (!decide (x = y))) := we_p2 (fun k h => w_neS h) h h2
theorem we_eqD [de : @DE α d] [DecidableEq α] {m n : M α} (hd : de.dep ≤ 64) (h : Re tx Y ta Γ d m) (h2 : Re tx Y tb Γ d n) : We tx Y (tOp (rEqP Y.K) ta tb) Γ dBool (m >>= fun x => n >>= fun y => .ok (decide (x = y))) := we_p2 (fun k h => w_eqD hd h) h h2
theorem we_neD [de : @DE α d] [DecidableEq α] {m n : M α} (hd : de.dep ≤ 64) (h : Re tx Y ta Γ d m) (h2 : Re tx Y tb Γ d n) : We tx Y (tOp (rNeP Y.K) ta tb) Γ dBool (m >>= fun x => n >>= fun y => .ok (!decide (x = y))) := we_p2 (fun k h => w_neD hd h) h h2
/-- a op b op' c, whole numbers -/
theorem we_chain {f f' : Int → Int → Bool} {m n o : M Int} (h : Re tx Y ta Γ dInt m) (h2 : Re tx Y tb Γ dInt n) (h3 : Re tx Y tc Γ dInt o) : We tx Y (tChain (rI0 fun i j => .bl (f i j)) (rI0 fun i j => .bl (f' i j)) ta tb tc) Γ dBool (m >>= fun x => n >>= fun y => if f x y then o >>= fun z => .ok (f' y z) else .ok false) := fun nb xk e F σ H s Q q =>
  (h.k nb xk (k := fun x => R Y tb Γ dInt fun y => (n = .ok y) ∧ ((if f x y = true then o >>= fun z => M.ok (f' y z) else .ok false) : M Bool).nb ∧ XkM tx Y Γ ((if f x y = true then o >>= fun z => M.ok (f' y z) else .ok false) : M Bool) ∧ m = .ok x) fun x e1 nb xk => h2.k nb xk fun y e2 nb xk => ⟨e2, nb, xk, e1⟩) e F σ H s _ fun v1 F1 H1 x hy g1 r1 => hy e F1 σ H1 (s.grow g1) _ fun v2 F2 H2 y ⟨e2, nb, xk, e1⟩ g2 r2 => by
    cases (show v1 = .int x from r1)
    cases (show v2 = .int y from r2)
    refine ⟨x, y, rfl, rfl, f x y, rfl, ?_⟩
    cases hf : f x y with
    | false => 
      rw [if_neg (by simp)]
      exact q _ F2 H2 false (by rw [e1]; show (n >>= _) = _; rw [e2]; show (if f x y = true then _ else _) = _; rw [hf]; rfl) (g1.trans0 g2) rfl
    | true =>
      rw [if_pos rfl]
      rw [hf, if_pos rfl] at nb xk
      refine h3.k nb xk (k := fun z => o = .ok z) (fun z e3 _ _ => e3) e F2 σ H2 ((s.grow g1).grow g2) _ fun v3 F3 H3 z e3 g3 r3 => ?_
      cases (show v3 = .int z from r3)
      exact ⟨y, z, rfl, rfl, q _ F3 H3 _ (by rw [e1]; show (n >>= _) = _; rw [e2]; show (if f x y = true then _ else _) = _; rw [hf, if_pos rfl, e3]; rfl) ((g1.trans0 g2).trans0 g3) rfl⟩
theorem we_chainP {f f' : Int → Int → Bool} {x y z : Int} (h : Re tx Y ta Γ dInt (.ok x)) (h2 : Re tx Y tb Γ dInt (.ok y)) (h3 : Re tx Y tc Γ dInt (.ok z)) : We tx Y (tChain (rI0 fun i j => .bl (f i j)) (rI0 fun i j => .bl (f' i j)) ta tb tc) Γ dBool (.ok (f x y && f' y z)) := we_eq (we_chain h h2 h3) (by
  show (if f x y = true then _ else _) = _
  cases hf : f x y <;> rfl)
/-! tests -/
theorem te_test {m : M Bool} (h : We tx Y te Γ dBool m) : Te tx Y (tTest te) Γ m := fun nb xk => t_test (r_of_w (h nb xk))
theorem te_B {m : M Bool} (h : We tx Y te Γ dBool m) : Te tx Y (tB te) Γ m := fun nb xk => t_B (r_of_w (h nb xk))
theorem te_not {m : M Bool} (h : Te tx Y t Γ m) : Te tx Y (tNot t) Γ (m >>= fun b => .ok (!b)) := fun nb xk => t_not (h.k nb xk fun b e _ _ => by rw [e]; rfl)
theorem te_and {m n : M Bool} (h : Te tx Y t Γ m) (h2 : Te tx Y u Γ n) : Te tx Y (tAnd t u) Γ (m >>= fun b => if b then n else .ok false) := fun nb xk => t_and (h.k nb xk fun b e nb xk => ⟨fun hb => by
  subst hb; exact t_mono (h2 nb xk) fun c ec => by rw [e]; exact ec, fun hb => by subst hb; rw [e]; rfl⟩)
theorem te_or {m n : M Bool} (h : Te tx Y t Γ m) (h2 : Te tx Y u Γ n) : Te tx Y (tOr t u) Γ (m >>= fun b => if b then .ok true else n) := fun nb xk => t_or (h.k nb xk fun b e nb xk => ⟨fun hb => by subst hb; rw [e]; rfl, fun hb => by
  subst hb; exact t_mono (h2 nb xk) fun c ec => by rw [e]; exact ec⟩)
theorem te_andP {a b : Bool} (h : Te tx Y t Γ (.ok a)) (h2 : Te tx Y u Γ (.ok b)) : Te tx Y (tAnd t u) Γ (.ok (a && b)) := te_eq (te_and h h2) (by cases a <;> rfl)
theorem te_orP {a b : Bool} (h : Te tx Y t Γ (.ok a)) (h2 : Te tx Y u Γ (.ok b)) : Te tx Y (tOr t u) Γ (.ok (a || b)) := te_eq (te_or h h2) (by cases a <;> rfl)
theorem we_and {m n : M Bool} (h : We tx Y ta Γ dBool m) (h2 : We tx Y tb Γ dBool n) : We tx Y (tAndV ta tb) Γ dBool (m >>= fun b => if b then n else .ok false) := fun nb xk => w_andV (r_of_w (h.k nb xk fun b e nb xk => ⟨fun hb => by
  subst hb; exact w_mono (h2 nb xk) fun c ec => by rw [e]; exact ec, fun hb => by subst hb; rw [e]; rfl⟩))
theorem we_andP {a b : Bool} (h : We tx Y ta Γ dBool (.ok a)) (h2 : We tx Y tb Γ dBool (.ok b)) : We tx Y (tAndV ta tb) Γ dBool (.ok (a && b)) := we_eq (we_and h h2) (by cases a <;> rfl)
theorem we_not {m : M Bool} (h : We tx Y ta Γ dBool m) : We tx Y (tNotV ta) Γ dBool (m >>= fun b => .ok (!b)) := fun nb xk => w_notV (r_of_w (h.k nb xk fun b e _ _ => by rw [e]; rfl))
theorem te_truL {m : M (List α)} (h : Re tx Y ta Γ (dList (d := d)) m) : Te tx Y (fun σ H Q => ta σ H fun x H' => ∃ k, TruV Y.K x H' k ∧ Q k H') Γ (m >>= fun xs => .ok (!xs.isEmpty)) := fun nb xk => t_truL (h.k nb xk fun x e _ _ => by rw [e]; rfl)
/-! built-ins -/
theorem we_abs {m : M Int} (h : Re tx Y ta Γ dInt m) : We tx Y (tCB (fun xs H Q => ∃ i, xs = [.int i] ∧ Q (.int (if i < 0 then -i else i)) H) (tCons ta tNil)) Γ dInt (m >>= fun x => .ok (if x < 0 then -x else x)) := we_p1 (fun k h => w_abs h) h
theorem we_int1 {m : M Int} (h : Re tx Y ta Γ dInt m) : We tx Y (tCB (fun xs H Q => (∃ i, xs = [.int i] ∧ Q (.int i) H) ∨ ∃ k, xs = [.bl k] ∧ Q (.int (if k then 1 else 0)) H) (tCons ta tNil)) Γ dInt m := we_eq (we_p1 (f := fun x : Int => x) (fun k h => w_int1 h) h) (M.bind_ok m)
theorem we_min2 {m n : M Int} (h : Re tx Y ta Γ dInt m) (h2 : Re tx Y tb Γ dInt n) : We tx Y (tCB (fun xs H Q => ∃ i j, xs = [.int i, .int j] ∧ Q (.int (if j < i then j else i)) H) (tCons ta (tCons tb tNil))) Γ dInt (m >>= fun x => n >>= fun y => .ok (if y < x then y else x)) := we_p2 (fun k h => w_min2 h) h h2
theorem we_len {m : M (List α)} (h : Re tx Y ta Γ (dList (d := d)) m) : We tx Y (tCB (fun xs H Q => ∃ p ys, xs = [.ref p] ∧ (SqL Y.K H p ys ∨ SqT Y.K H p ys) ∧ Q (.int ys.length) H) (tCons ta tNil)) Γ dInt (m >>= fun xs => .ok (xs.length : Int)) := we_p1 (f := fun xs : List α => (xs.length : Int)) (fun k h => w_len h) h
theorem we_lenT {m : M (Tup α)} (h : Re tx Y ta Γ (dTup (d := d)) m) : We tx Y (tCB (fun xs H Q => ∃ p ys, xs = [.ref p] ∧ (SqL Y.K H p ys ∨ SqT Y.K H p ys) ∧ Q (.int ys.length) H) (tCons ta tNil)) Γ dInt (m >>= fun xs => .ok (xs.l.length : Int)) := we_p1 (f := fun xs : Tup α => (xs.l.length : Int)) (fun k h => w_lenT h) h
theorem we_lenQ {m : M (Sq α)} (h : Re tx Y ta Γ (dSq (d := d)) m) : We tx Y (tCB (fun xs H Q => ∃ p ys, xs = [.ref p] ∧ (SqL Y.K H p ys ∨ SqT Y.K H p ys) ∧ Q (.int ys.length) H) (tCons ta tNil)) Γ dInt (m >>= fun xs => .ok (xs.l.length : Int)) := we_p1 (f := fun xs : Sq α => (xs.l.length : Int)) (fun k h => w_lenQ h) h
/-! items -/
theorem we_ix {m : M (List α)} {n : M Int} (h : We tx Y ta Γ (dList (d := d)) m) (h2 : Re tx Y tb Γ dInt n) : We tx Y (tOp (rIxL Y.K) ta tb) Γ d (m >>= fun xs => n >>= fun i => M.ix xs i) := we_l2 (fun k h => w_ix h) h h2
theorem we_ixT {m : M (Tup α)} {n : M Int} (h : We tx Y ta Γ (dTup (d := d)) m) (h2 : Re tx Y tb Γ dInt n) : We tx Y (tOp (rIxT Y.K) ta tb) Γ d (m >>= fun xs => n >>= fun i => M.ix xs.l i) := we_l2 (f := fun (xs : Tup α) i => atI xs.l i) (fun k h => w_ixT h) h h2
/-- an item of an owned list -/
theorem we_ixO {pin : Option V} {i : Nat} {xs : List α} {n : M Int} (hi : Γ[i]? = some (.own (dList (d := d)) (oList (d := d)) pin xs)) (h2 : Re tx Y tb Γ dInt n) : We tx Y (tOp (rIxL Y.K) (tVar i) tb) Γ d (n >>= fun i => M.ix xs i) := fun nb xk => w_ixO hi (h2.k nb xk fun y e nb2 _ => by
  cases q : atI xs y with
  | none => unfold M.ix at nb2; rw [q] at nb2; exact absurd rfl nb2
  | some z => exact ⟨z, rfl, by rw [e]; show M.ix _ _ = _; unfold M.ix; rw [q]; rfl⟩)
/-- an item of a tuple of a known length, at a written place -/
theorem atI_c {K : Frag} {H : Hp} {a : Addr} {xs : List V} {F : Hp} (h : TpA K F a xs) (s : Same F H) : SqT K H a xs := (h.mono s).sq
theorem w_fst {k : α → Prop} (h : W Y te Γ (dPair (d1 := d) (d2 := d2)) fun x => k x.1) : W Y (tOp (rIxT Y.K) te (tC (.int 0))) Γ d k := fun e F σ H s Q q => h e F σ H s _ fun v F' H' x kx g ⟨a, v1, v2, ev, ht, r1, r2⟩ => by
  subst ev
  exact ⟨a, _, 0, v1, rfl, rfl, atI_c ht g.fh, rfl, q v1 F' H' _ kx g r1⟩
theorem w_snd {k : β → Prop} (h : W Y te Γ (dPair (d1 := d) (d2 := d2)) fun x => k x.2) : W Y (tOp (rIxT Y.K) te (tC (.int 1))) Γ d2 k := fun e F σ H s Q q => h e F σ H s _ fun v F' H' x kx g ⟨a, v1, v2, ev, ht, r1, r2⟩ => by
  subst ev
  exact ⟨a, _, 1, v2, rfl, rfl, atI_c ht g.fh, rfl, q v2 F' H' _ kx g r2⟩
theorem we_fst {m : M (α × β)} (h : We tx Y te Γ (dPair (d1 := d) (d2 := d2)) m) : We tx Y (tOp (rIxT Y.K) te (tC (.int 0))) Γ d (m >>= fun x => .ok x.1) := we_p1w (fun k h => w_fst h) h
theorem we_snd {m : M (α × β)} (h : We tx Y te Γ (dPair (d1 := d) (d2 := d2)) m) : We tx Y (tOp (rIxT Y.K) te (tC (.int 1))) Γ d2 (m >>= fun x => .ok x.2) := we_p1w (fun k h => w_snd h) h
/-- an item of a tuple of whole numbers, at a computed place -/
def T4.at4 (x : T4 α α α α) (i : Int) : Option α := atI [x.a, x.b, x.c, x.d] i
theorem w_ix4 {k : α → Prop} (h : W Y te Γ (dT4 (d1 := d) (d2 := d) (d3 := d) (d4 := d)) fun x => R Y tb Γ dInt fun i => ∃ y, x.at4 i = some y ∧ k y) : W Y (tOp (rIxT Y.K) te tb) Γ d k := fun e F σ H s Q q => h e F σ H s _ fun v F1 H1 x h1 g ⟨a, v1, v2, v3, v4, ev, ht, r1, r2, r3, r4⟩ => h1 e F1 σ H1 (s.grow g) _ fun w F2 H2 i ⟨y, hy, ky⟩ g2 rw' => by
  subst ev
  cases (show w = .int i from rw')
  obtain ⟨v, hv, rv⟩ := atI_rep (d := d) (C := Y.g) (F := F1) (vs := [v1, v2, v3, v4]) (xs := [x.a, x.b, x.c, x.d]) ⟨r1, r2, r3, r4, trivial⟩ hy
  exact ⟨a, _, i, v, rfl, rfl, atI_c ht (g2.ff.trans g2.fh), hv, q v F2 H2 y ky (g.trans0 g2) (d.mono g2.ff rv)⟩
theorem we_ix4 {m : M (T4 α α α α)} {n : M Int} (h : We tx Y te Γ (dT4 (d1 := d) (d2 := d) (d3 := d) (d4 := d)) m) (h2 : Re tx Y tb Γ dInt n) : We tx Y (tOp (rIxT Y.K) te tb) Γ d (m >>= fun x => n >>= fun i => M.ofO (x.at4 i)) := we_l2 (fun k h => w_ix4 h) h h2
/-! membership -/
/-- x in xs -/
def memB {α : Type} [DecidableEq α] (x : α) (xs : List α) : Bool := decide (x ∈ xs)
theorem memB_iff {α : Type} [DecidableEq α] {x : α} {xs : List α} : memB x xs = true ↔ x ∈ xs := decide_eq_true_iff
theorem we_inT [f : @Flat α d] [DecidableEq α] {m : M α} {n : M (Tup α)} (h : Re tx Y ta Γ d m) (h2 : Re tx Y tb Γ (dTup (d := d)) n) : We tx Y (tOp (rIn Y.K false) ta tb) Γ dBool (m >>= fun x => n >>= fun xs => .ok (memB x xs.l)) := we_p2 (f := fun (x : α) (xs : Tup α) => memB x xs.l) (fun k h => w_inT h) h h2
theorem we_notinS {m : M Int} {n : M IS} (h : Re tx Y ta Γ dInt m) (h2 : Re tx Y tb Γ dSet n) : We tx Y (tOp (rSNotIn Y.w) ta tb) Γ dBool (m >>= fun x => n >>= fun s => .ok (!memB x s.l)) := we_p2 (f := fun (x : Int) (s : IS) => !memB x s.l) (fun k h => w_notinS h) h h2
/-! tuples, lists -/
theorem we_tup2 {m : M α} {n : M β} (h : We tx Y ta Γ d m) (h2 : We tx Y tb Γ d2 n) : We tx Y (tTup (tCons ta (tCons tb tNil))) Γ (dPair (d1 := d) (d2 := d2)) (m >>= fun x => n >>= fun y => .ok (x, y)) := fun nb xk =>
  w_tup2 (h.k nb xk fun x e nb xk => h2.k nb xk fun y e2 nb xk => by rw [e]; show (n >>= _) = _; rw [e2]; rfl)
theorem we_tup4 {m : M α} {n : M β} {o : M γ} {p : M δ} (h : We tx Y ta Γ d m) (h2 : We tx Y tb Γ d2 n) (h3 : We tx Y tc Γ d3 o) (h4 : We tx Y td Γ d4 p) : We tx Y (tTup (tCons ta (tCons tb (tCons tc (tCons td tNil))))) Γ (dT4 (d1 := d) (d2 := d2) (d3 := d3) (d4 := d4)) (m >>= fun x => n >>= fun y => o >>= fun z => p >>= fun u => .ok ⟨x, y, z, u⟩) := fun nb xk =>
  w_tup4 (h.k nb xk fun x e nb xk => h2.k nb xk fun y e2 nb xk => h3.k nb xk fun z e3 nb xk => h4.k nb xk fun u e4 nb xk => by rw [e]; show (n >>= _) = _; rw [e2]; show (o >>= _) = _; rw [e3]; show (p >>= _) = _; rw [e4]; rfl)
def WLe (tx : XC → Addr) (Y : YC) (ta : TA) (Γ : List Cell) {α : Type} (d : Dat α) (m : M (List α)) : Prop := m.nb → XkM tx Y Γ m → WL Y ta Γ d (m = .ok ·)
theorem wl_mono {tl : TA} {k k' : List α → Prop} (h : WL Y tl Γ d k) (m : ∀ x, k x → k' x) : WL Y tl Γ d k' := fun e F σ H s Q q => h e F σ H s Q fun v F' H' x kx g r => q v F' H' x (m x kx) g r
theorem wle_nil : WLe tx Y tNil Γ d (.ok []) := fun _ _ => wl_nil rfl
theorem wle_cons {tr : TA} {m : M α} {n : M (List α)} (h : We tx Y te Γ d m) (h2 : WLe tx Y tr Γ d n) : WLe tx Y (tCons te tr) Γ d (m >>= fun x => n >>= fun xs => .ok (x :: xs)) := fun nb xk => wl_cons (h.k nb xk fun x e nb xk => wl_mono (h2 (M.nb1 nb) xk.l) fun xs e2 => by rw [e]; show (n >>= _) = _; rw [e2]; rfl)
theorem oe_lst {tl : TA} {m : M (List α)} (h : WLe tx Y tl Γ d m) (hl : ∀ xs, m = .ok xs → xs.length ≤ PySem.sizeLine) : Oe tx Y (tLst tl) Γ (oList (d := d)) m := fun nb xk => o_lst (wl_mono (h nb xk) fun xs e => ⟨hl xs e, e⟩)
theorem oe_lst0 : Oe tx Y (tLst tNil) Γ (oList (d := d)) (.ok []) := fun _ _ => o_nil rfl
theorem oe_nilDeep {od : @OD α d} : Oe tx Y (tLst tNil) Γ (oDeep od) (.ok []) := fun _ _ => o_nilDeep rfl
def asLen (n : Nat) (m : M (List α)) : Prop := ∀ xs, m = .ok xs → xs.length = n
theorem asLen0 : asLen 0 (.ok ([] : List α)) := fun xs e => by cases e; rfl
theorem asLenS {n : Nat} {m : M α} {o : M (List α)} (h : asLen n o) : asLen (n + 1) (m >>= fun x => o >>= fun xs => .ok (x :: xs)) := fun xs e => by
  cases m with
  | bad => cases e
  | exc x => cases e
  | ok x => cases ho : o with
    | bad => rw [ho] at e; cases e
    | exc x => rw [ho] at e; cases e
    | ok ys => rw [ho] at e; cases e; simp [h ys ho]
theorem oe_lstN {n : Nat} {tl : TA} {m : M (List α)} (h : WLe tx Y tl Γ d m) (hl : asLen n m) (hn : n ≤ 1000) : Oe tx Y (tLst tl) Γ (oList (d := d)) m := oe_lst h fun xs e => by rw [hl xs e]; exact Nat.le_of_lt (small1k (by omega))
theorem oe_listOf {m : M (List α)} (h : We tx Y ta Γ (dList (d := d)) m) : Oe tx Y (tCB (fun xs H Q => ∃ p ys, xs = [.ref p] ∧ (SqL Y.K H p ys ∨ SqT Y.K H p ys) ∧ ∀ l, H l = none → Q (.ref l) (upd H l (.lst ys))) (tCons ta tNil)) Γ (oList (d := d)) m := oe_eq (oe_p1w (f := fun x : List α => x) (fun k h => o_listOf h) h) (M.bind_ok m)
theorem oe_listOfT {m : M (Tup α)} (h : We tx Y ta Γ (dTup (d := d)) m) : Oe tx Y (tCB (fun xs H Q => ∃ p ys, xs = [.ref p] ∧ (SqL Y.K H p ys ∨ SqT Y.K H p ys) ∧ ∀ l, H l = none → Q (.ref l) (upd H l (.lst ys))) (tCons ta tNil)) Γ (oList (d := d)) (m >>= fun xs => .ok xs.l) := oe_p1w (f := fun x : Tup α => x.l) (fun k h => o_listOfT h) h
theorem oe_listOfO [i : @Imm α d] {m : M (List α)} (h : Re tx Y ta Γ (dList (d := d)) m) : Oe tx Y (tCB (fun xs H Q => ∃ p ys, xs = [.ref p] ∧ (SqL Y.K H p ys ∨ SqT Y.K H p ys) ∧ ∀ l, H l = none → Q (.ref l) (upd H l (.lst ys))) (tCons ta tNil)) Γ (oList (d := d)) m := oe_eq (oe_p1 (f := fun x : List α => x) (fun k h => o_listOfO h) h) (M.bind_ok m)
theorem we_tupOf {m : M (List α)} (h : We tx Y ta Γ (dList (d := d)) m) : We tx Y (tCB (fun xs H Q => ∃ p ys, xs = [.ref p] ∧ ((SqL Y.K H p ys ∧ ∀ l, H l = none → Q (.ref l) (upd H l (.tup ys))) ∨ (SqT Y.K H p ys ∧ Q (.ref p) H))) (tCons ta tNil)) Γ (dTup (d := d)) (m >>= fun xs => .ok ⟨xs⟩) := we_p1w (f := fun x : List α => (⟨x⟩ : Tup α)) (fun k h => w_tupOf h) h
theorem we_tupOfQ {m : M (Sq α)} (h : We tx Y ta Γ (dSq (d := d)) m) : We tx Y (tCB (fun xs H Q => ∃ p ys, xs = [.ref p] ∧ ((SqL Y.K H p ys ∧ ∀ l, H l = none → Q (.ref l) (upd H l (.tup ys))) ∨ (SqT Y.K H p ys ∧ Q (.ref p) H))) (tCons ta tNil)) Γ (dTup (d := d)) (m >>= fun xs => .ok ⟨xs.l⟩) := we_p1w (f := fun x : Sq α => (⟨x.l⟩ : Tup α)) (fun k h => w_tupOfQ h) h
theorem we_sqL {m : M (List α)} (h : We tx Y te Γ (dList (d := d)) m) : We tx Y te Γ (dSq (d := d)) (m >>= fun xs => .ok ⟨xs⟩) := we_p1w (f := fun x : List α => (⟨x⟩ : Sq α)) (fun k h => w_sqL h) h
theorem we_sqT {m : M (Tup α)} (h : We tx Y te Γ (dTup (d := d)) m) : We tx Y te Γ (dSq (d := d)) (m >>= fun xs => .ok ⟨xs.l⟩) := we_p1w (f := fun x : Tup α => (⟨x.l⟩ : Sq α)) (fun k h => w_sqT h) h
theorem oe_sorted {m : M (List Int)} (h : Re tx Y ta Γ (dList (d := dInt)) m) : Oe tx Y (tCB (rSortedI Y.K) (tCons ta tNil)) Γ (oList (d := dInt)) (m >>= fun xs => .ok (isort xs)) := oe_p1 (f := isort) (fun k h => o_sorted h) h
/-! slices -/
def TOe (tx : XC → Addr) (Y : YC) (to : TO) (Γ : List Cell) (m : M (Option Int)) : Prop := m.nb → XkM tx Y Γ m → TOk Y to Γ (m = .ok ·)
theorem toe_none : TOe tx Y tNoPart Γ (.ok none) := fun _ _ => to_none rfl
theorem toe_some {m : M Int} (h : Re tx Y te Γ dInt m) : TOe tx Y (tPart te) Γ (m >>= fun n => .ok (some n)) := fun nb xk => to_some (h.k nb xk fun n e _ _ => by rw [e]; rfl)
theorem to_mono {to : TO} {k k' : Option Int → Prop} (h : TOk Y to Γ k) (m : ∀ x, k x → k' x) : TOk Y to Γ k' := fun e F σ H s Q q => h e F σ H s Q fun v F' H' kx g => q v F' H' (m v kx) g
theorem oe_sl {tl th : TO} {m : M (List α)} {n o : M (Option Int)} (h : We tx Y te Γ (dList (d := d)) m) (h2 : TOe tx Y tl Γ n) (h3 : TOe tx Y th Γ o) : Oe tx Y (tSl (rSlL Y.K) te tl th) Γ (oList (d := d)) (m >>= fun xs => n >>= fun lo => o >>= fun hi => .ok (cutL xs lo hi)) := fun nb xk =>
  o_sl (h.k nb xk fun xs e nb xk => to_mono (h2 (M.nb1 nb) xk.l) fun lo e2 => to_mono (h3 (M.nb1 (f := fun hi => .ok (cutL xs lo hi)) (M.nb2 (f := fun lo => o >>= fun hi => .ok (cutL xs lo hi)) nb e2)) (XkM.l (f := fun hi => .ok (cutL xs lo hi)) (XkM.r (f := fun lo => o >>= fun hi => .ok (cutL xs lo hi)) xk e2))) fun hi e3 => by rw [e]; show (n >>= _) = _; rw [e2]; show (o >>= _) = _; rw [e3]; rfl)
/-! fields -/
theorem we_fld {C0 : Addr} {f : Str} {g : α → β} {m : M α} (hf : IsF d C0 f d2 g) (c : Cls Y.K C0) (n : NoAttr Y.K C0 f) (h : We tx Y te Γ d m) : We tx Y (tFld Y.K te f) Γ d2 (m >>= fun x => .ok (g x)) := we_p1w (fun k h => w_fld hf c n h) h
theorem we_con {C0 : Addr} {f : Str} {ns : List Str} {n : Int} {u : Value} {m : M α} (hf : IsI d C0 ns) (c : Cls Y.K C0) (k0 : Con Y.K C0 f (.int n) u) (hn : f ∉ ns) (h : Re tx Y te Γ d m) : We tx Y (tCon Y.K te f) Γ dInt (m >>= fun _ => .ok n) := we_p1 (f := fun _ : α => n) (fun k h => w_con hf c k0 hn h) h
end
section
variable {tx : XC → Addr} {Y : YC} {Γ : List Cell} {β : Type} {d : Dat β} {t1 t2 t3 t4 t5 t6 t7 : TE} {sp : Sp} {E : L2.St → XK}
variable {α0 α1 α2 α3 α4 α5 α6 α7 : Type} {d0 : Dat α0} {d1 : Dat α1} {d2 : Dat α2} {d3 : Dat α3} {d4 : Dat α4} {d5 : Dat α5} {d6 : Dat α6} {d7 : Dat α7} {m0 : M α0} {m1 : M α1} {m2 : M α2} {m3 : M α3} {m4 : M α4} {m5 : M α5} {m6 : M α6} {m7 : M α7} {t0 : TE}
theorem we_call1 {f : α1 → M β} (hs : ∀ x1, (f x1).nb → SpX Y.g sp [.val d1 x1] (fun c => ∃ r, c = .val d r ∧ (f x1) = .ok r) fun x => ∃ px, (f x1) = .exc px ∧ x = px.x tx) (hE : E = Y.E) (h1 : We tx Y t1 Γ d1 m1) : We tx Y (tCallS sp E (tCons t1 tNil)) Γ d (m1 >>= fun x1 => f x1) := fun nb xk => w_callX hE (wa_cons (h1.k nb xk fun x1 e1 nb xk => wa_nil fun vs H Q E fx => hs x1 nb vs H Q E (fx.mono (fun c ⟨r, e, q⟩ => ⟨r, e, by rw [e1]; exact q⟩) fun x ⟨px, e, q⟩ => q ▸ xk px e)))
theorem we_call2 {f : α1 → α2 → M β} (hs : ∀ x1 x2, (f x1 x2).nb → SpX Y.g sp [.val d1 x1, .val d2 x2] (fun c => ∃ r, c = .val d r ∧ (f x1 x2) = .ok r) fun x => ∃ px, (f x1 x2) = .exc px ∧ x = px.x tx) (hE : E = Y.E) (h1 : We tx Y t1 Γ d1 m1) (h2 : We tx Y t2 Γ d2 m2) : We tx Y (tCallS sp E (tCons t1 (tCons t2 tNil))) Γ d (m1 >>= fun x1 => m2 >>= fun x2 => f x1 x2) := fun nb xk => w_callX hE (wa_cons (h1.k nb xk fun x1 e1 nb xk => wa_cons (h2.k nb xk fun x2 e2 nb xk => wa_nil fun vs H Q E fx => hs x1 x2 nb vs H Q E (fx.mono (fun c ⟨r, e, q⟩ => ⟨r, e, by rw [e1]; show (m2 >>= _) = _; rw [e2]; exact q⟩) fun x ⟨px, e, q⟩ => q ▸ xk px e))))
theorem we_call3 {f : α1 → α2 → α3 → M β} (hs : ∀ x1 x2 x3, (f x1 x2 x3).nb → SpX Y.g sp [.val d1 x1, .val d2 x2, .val d3 x3] (fun c => ∃ r, c = .val d r ∧ (f x1 x2 x3) = .ok r) fun x => ∃ px, (f x1 x2 x3) = .exc px ∧ x = px.x tx) (hE : E = Y.E) (h1 : We tx Y t1 Γ d1 m1) (h2 : We tx Y t2 Γ d2 m2) (h3 : We tx Y t3 Γ d3 m3) : We tx Y (tCallS sp E (tCons t1 (tCons t2 (tCons t3 tNil)))) Γ d (m1 >>= fun x1 => m2 >>= fun x2 => m3 >>= fun x3 => f x1 x2 x3) := fun nb xk => w_callX hE (wa_cons (h1.k nb xk fun x1 e1 nb xk => wa_cons (h2.k nb xk fun x2 e2 nb xk => wa_cons (h3.k nb xk fun x3 e3 nb xk => wa_nil fun vs H Q E fx => hs x1 x2 x3 nb vs H Q E (fx.mono (fun c ⟨r, e, q⟩ => ⟨r, e, by rw [e1]; show (m2 >>= _) = _; rw [e2]; show (m3 >>= _) = _; rw [e3]; exact q⟩) fun x ⟨px, e, q⟩ => q ▸ xk px e)))))
theorem we_call4 {f : α1 → α2 → α3 → α4 → M β} (hs : ∀ x1 x2 x3 x4, (f x1 x2 x3 x4).nb → SpX Y.g sp [.val d1 x1, .val d2 x2, .val d3 x3, .val d4 x4] (fun c => ∃ r, c = .val d r ∧ (f x1 x2 x3 x4) = .ok r) fun x => ∃ px, (f x1 x2 x3 x4) = .exc px ∧ x = px.x tx) (hE : E = Y.E) (h1 : We tx Y t1 Γ d1 m1) (h2 : We tx Y t2 Γ d2 m2) (h3 : We tx Y t3 Γ d3 m3) (h4 : We tx Y t4 Γ d4 m4) : We tx Y (tCallS sp E (tCons t1 (tCons t2 (tCons t3 (tCons t4 tNil))))) Γ d (m1 >>= fun x1 => m2 >>= fun x2 => m3 >>= fun x3 => m4 >>= fun x4 => f x1 x2 x3 x4) := fun nb xk => w_callX hE (wa_cons (h1.k nb xk fun x1 e1 nb xk => wa_cons (h2.k nb xk fun x2 e2 nb xk => wa_cons (h3.k nb xk fun x3 e3 nb xk => wa_cons (h4.k nb xk fun x4 e4 nb xk => wa_nil fun vs H Q E fx => hs x1 x2 x3 x4 nb vs H Q E (fx.mono (fun c ⟨r, e, q⟩ => ⟨r, e, by rw [e1]; show (m2 >>= _) = _; rw [e2]; show (m3 >>= _) = _; rw [e3]; show (m4 >>= _) = _; rw [e4]; exact q⟩) fun x ⟨px, e, q⟩ => q ▸ xk px e))))))
theorem we_meth1 {C0 : Addr} {mn : Str} {ns : List Str} {f : α0 → α1 → M β} (hs : ∀ x0 x1, (f x0 x1).nb → SpX Y.g sp [.val d0 x0, .val d1 x1] (fun c => ∃ r, c = .val d r ∧ (f x0 x1) = .ok r) fun x => ∃ px, (f x0 x1) = .exc px ∧ x = px.x tx) (hE : E = Y.E) (hI : IsI d0 C0 ns) (hm : mn ∉ ns) (h0 : We tx Y t0 Γ d0 m0) (h1 : We tx Y t1 Γ d1 m1) : We tx Y (tMethE C0 mn sp E t0 (tCons t1 tNil)) Γ d (m0 >>= fun x0 => m1 >>= fun x1 => f x0 x1) := fun nb xk => w_methE hE hI hm (h0.k nb xk fun x0 e0 nb xk => wa_cons (h1.k nb xk fun x1 e1 nb xk => wa_nil fun vs H Q E fx => hs x0 x1 nb vs H Q E (fx.mono (fun c ⟨r, e, q⟩ => ⟨r, e, by rw [e0]; show (m1 >>= _) = _; rw [e1]; exact q⟩) fun x ⟨px, e, q⟩ => q ▸ xk px e)))
theorem oe_call1 {od : @OD β d} {f : α1 → M β} (hs : ∀ x1, (f x1).nb → SpX Y.g sp [.val d1 x1] (fun c => ∃ r, c = .own d od none r ∧ (f x1) = .ok r) fun x => ∃ px, (f x1) = .exc px ∧ x = px.x tx) (hE : E = Y.E) (h1 : We tx Y t1 Γ d1 m1) : Oe tx Y (tCallS sp E (tCons t1 tNil)) Γ od (m1 >>= fun x1 => f x1) := fun nb xk => o_callX hE (wa_cons (h1.k nb xk fun x1 e1 nb xk => wa_nil fun vs H Q E fx => hs x1 nb vs H Q E (fx.mono (fun c ⟨r, e, q⟩ => ⟨r, e, by rw [e1]; exact q⟩) fun x ⟨px, e, q⟩ => q ▸ xk px e)))
theorem oe_call2 {od : @OD β d} {f : α1 → α2 → M β} (hs : ∀ x1 x2, (f x1 x2).nb → SpX Y.g sp [.val d1 x1, .val d2 x2] (fun c => ∃ r, c = .own d od none r ∧ (f x1 x2) = .ok r) fun x => ∃ px, (f x1 x2) = .exc px ∧ x = px.x tx) (hE : E = Y.E) (h1 : We tx Y t1 Γ d1 m1) (h2 : We tx Y t2 Γ d2 m2) : Oe tx Y (tCallS sp E (tCons t1 (tCons t2 tNil))) Γ od (m1 >>= fun x1 => m2 >>= fun x2 => f x1 x2) := fun nb xk => o_callX hE (wa_cons (h1.k nb xk fun x1 e1 nb xk => wa_cons (h2.k nb xk fun x2 e2 nb xk => wa_nil fun vs H Q E fx => hs x1 x2 nb vs H Q E (fx.mono (fun c ⟨r, e, q⟩ => ⟨r, e, by rw [e1]; show (m2 >>= _) = _; rw [e2]; exact q⟩) fun x ⟨px, e, q⟩ => q ▸ xk px e))))
theorem oe_call3 {od : @OD β d} {f : α1 → α2 → α3 → M β} (hs : ∀ x1 x2 x3, (f x1 x2 x3).nb → SpX Y.g sp [.val d1 x1, .val d2 x2, .val d3 x3] (fun c => ∃ r, c = .own d od none r ∧ (f x1 x2 x3) = .ok r) fun x => ∃ px, (f x1 x2 x3) = .exc px ∧ x = px.x tx) (hE : E = Y.E) (h1 : We tx Y t1 Γ d1 m1) (h2 : We tx Y t2 Γ d2 m2) (h3 : We tx Y t3 Γ d3 m3) : Oe tx Y (tCallS sp E (tCons t1 (tCons t2 (tCons t3 tNil)))) Γ od (m1 >>= fun x1 => m2 >>= fun x2 => m3 >>= fun x3 => f x1 x2 x3) := fun nb xk => o_callX hE (wa_cons (h1.k nb xk fun x1 e1 nb xk => wa_cons (h2.k nb xk fun x2 e2 nb xk => wa_cons (h3.k nb xk fun x3 e3 nb xk => wa_nil fun vs H Q E fx => hs x1 x2 x3 nb vs H Q E (fx.mono (fun c ⟨r, e, q⟩ => ⟨r, e, by rw [e1]; show (m2 >>= _) = _; rw [e2]; show (m3 >>= _) = _; rw [e3]; exact q⟩) fun x ⟨px, e, q⟩ => q ▸ xk px e)))))
theorem oe_call5 {od : @OD β d} {f : α1 → α2 → α3 → α4 → α5 → M β} (hs : ∀ x1 x2 x3 x4 x5, (f x1 x2 x3 x4 x5).nb → SpX Y.g sp [.val d1 x1, .val d2 x2, .val d3 x3, .val d4 x4, .val d5 x5] (fun c => ∃ r, c = .own d od none r ∧ (f x1 x2 x3 x4 x5) = .ok r) fun x => ∃ px, (f x1 x2 x3 x4 x5) = .exc px ∧ x = px.x tx) (hE : E = Y.E) (h1 : We tx Y t1 Γ d1 m1) (h2 : We tx Y t2 Γ d2 m2) (h3 : We tx Y t3 Γ d3 m3) (h4 : We tx Y t4 Γ d4 m4) (h5 : We tx Y t5 Γ d5 m5) : Oe tx Y (tCallS sp E (tCons t1 (tCons t2 (tCons t3 (tCons t4 (tCons t5 tNil)))))) Γ od (m1 >>= fun x1 => m2 >>= fun x2 => m3 >>= fun x3 => m4 >>= fun x4 => m5 >>= fun x5 => f x1 x2 x3 x4 x5) := fun nb xk => o_callX hE (wa_cons (h1.k nb xk fun x1 e1 nb xk => wa_cons (h2.k nb xk fun x2 e2 nb xk => wa_cons (h3.k nb xk fun x3 e3 nb xk => wa_cons (h4.k nb xk fun x4 e4 nb xk => wa_cons (h5.k nb xk fun x5 e5 nb xk => wa_nil fun vs H Q E fx => hs x1 x2 x3 x4 x5 nb vs H Q E (fx.mono (fun c ⟨r, e, q⟩ => ⟨r, e, by rw [e1]; show (m2 >>= _) = _; rw [e2]; show (m3 >>= _) = _; rw [e3]; show (m4 >>= _) = _; rw [e4]; show (m5 >>= _) = _; rw [e5]; exact q⟩) fun x ⟨px, e, q⟩ => q ▸ xk px e)))))))
theorem oe_meth1 {od : @OD β d} {C0 : Addr} {mn : Str} {ns : List Str} {f : α0 → α1 → M β} (hs : ∀ x0 x1, (f x0 x1).nb → SpX Y.g sp [.val d0 x0, .val d1 x1] (fun c => ∃ r, c = .own d od none r ∧ (f x0 x1) = .ok r) fun x => ∃ px, (f x0 x1) = .exc px ∧ x = px.x tx) (hE : E = Y.E) (hI : IsI d0 C0 ns) (hm : mn ∉ ns) (h0 : We tx Y t0 Γ d0 m0) (h1 : We tx Y t1 Γ d1 m1) : Oe tx Y (tMethE C0 mn sp E t0 (tCons t1 tNil)) Γ od (m0 >>= fun x0 => m1 >>= fun x1 => f x0 x1) := fun nb xk => o_methE hE hI hm (h0.k nb xk fun x0 e0 nb xk => wa_cons (h1.k nb xk fun x1 e1 nb xk => wa_nil fun vs H Q E fx => hs x0 x1 nb vs H Q E (fx.mono (fun c ⟨r, e, q⟩ => ⟨r, e, by rw [e0]; show (m1 >>= _) = _; rw [e1]; exact q⟩) fun x ⟨px, e, q⟩ => q ▸ xk px e)))
theorem oe_make2 {od : @OD β d} {C0 : Addr} {f : α1 → α2 → M β} (hs : ∀ x1 x2, (f x1 x2).nb → SpI Y.g sp od C0 [.val d1 x1, .val d2 x2] (fun r => (f x1 x2) = .ok r) fun x => ∃ px, (f x1 x2) = .exc px ∧ x = px.x tx) (hE : E = Y.E) (h1 : We tx Y t1 Γ d1 m1) (h2 : We tx Y t2 Γ d2 m2) : Oe tx Y (tMakeS C0 sp E (tCons t1 (tCons t2 tNil))) Γ od (m1 >>= fun x1 => m2 >>= fun x2 => f x1 x2) := fun nb xk => o_makeS hE (wa_cons (h1.k nb xk fun x1 e1 nb xk => wa_cons (h2.k nb xk fun x2 e2 nb xk => wa_nil fun vs H Q E fx => hs x1 x2 nb vs H Q E (fx.mono (fun r q => by rw [e1]; show (m2 >>= _) = _; rw [e2]; exact q) fun x ⟨px, e, q⟩ => q ▸ xk px e))))
/-- a static method by its class -/
theorem we_sm {C0 : Addr} {tl : TA} {m : M β} (h : We tx Y (tCallS sp E tl) Γ d m) : We tx Y (tSMethE C0 sp E (tC (.ref C0)) tl) Γ d m := fun nb xk e F σ H s Q q => ⟨rfl, h nb xk e F σ H s Q q⟩
/-- x in o, by its own __contains__ -/
theorem we_inO {C0 : Addr} {ns : List Str} {b0 : Bool} {f : α2 → α1 → M Bool} (hs : ∀ y x, (f y x).nb → SpX Y.g sp [.val d2 y, .val d1 x] (fun c => ∃ r, c = .val dBool r ∧ f y x = .ok r) fun x' => ∃ px, f y x = .exc px ∧ x' = px.x tx) (hI : IsI d2 C0 ns) (h1 : We tx Y t1 Γ d1 m1) (h2 : We tx Y t2 Γ d2 m2) :
    We tx Y (tOp (rInO C0 sp b0) t1 t2) Γ dBool (m1 >>= fun x => m2 >>= fun y => M.calm (f y x) >>= fun b => .ok (if b0 then !b else b)) := fun nb xk => w_inO hI (h1.k nb xk fun x e1 nb xk => h2.k nb xk fun y e2 nb xk => fun vs H Q E fx => by
  obtain ⟨b, eb⟩ := M.calm_nb (M.nb1 nb)
  refine hs y x (by rw [eb]; exact fun z => nomatch z) vs H Q E (fx.mono (fun c ⟨r, e, q⟩ => ⟨r, e, ?_⟩) fun x' ⟨px, e, q⟩ => by rw [eb] at e; cases e)
  rw [eb] at q
  cases q
  rw [e1]; show (m2 >>= _) = _; rw [e2]; show (M.calm (f y x) >>= _) = _; rw [eb]; rfl)
end
end G
end

noncomputable section
/-! M2: what is walked, comprehensions, statements: with models. -/
namespace L2
open PySem PySem.Spec PyProof.Rows
section
variable {X : Cx}
/-- what is walked is no longer than a line -/
def iListB (K : PySem.W.Frag) (tl : TE) : TI := fun σ H R => tl σ H fun x H1 => ∃ a xs, x = .ref a ∧ SqL K H1 a xs ∧ (xs.length ≤ sizeLine → R (Itl K a) H1)
def iTupB (K : PySem.W.Frag) (tl : TE) : TI := fun σ H R => tl σ H fun x H1 => ∃ a xs, x = .ref a ∧ SqT K H1 a xs ∧ (xs.length ≤ sizeLine → R (Itt K a) H1)
theorem pi_listB {tg l : Expr} {tl : TE} (hl : PE X l tl) : PI X tg l (iListB X.K tl) := ⟨fun pins s σ H R I h => thn (hl.run pins s σ H _ I h) fun v s1 ⟨x, H1, I1, r1, a, xs, e, hq, q⟩ => by
  subst e
  cases r1
  obtain ⟨its, rv, p, hz⟩ := I1.list hq
  exact wpAny_pyIter_list p.isList (born I1 (turn_list a _) ⟨_, Heap.get?_push_size _ rfl, rfl, rfl⟩ (q hz))⟩
theorem pi_tupB {tg l : Expr} {tl : TE} (hl : PE X l tl) : PI X tg l (iTupB X.K tl) := ⟨fun pins s σ H R I h => thn (hl.run pins s σ H _ I h) fun v s1 ⟨x, H1, I1, r1, a, xs, e, hq, q⟩ => by
  subst e
  cases r1
  obtain ⟨its, rv, p, hz⟩ := I1.tuple hq
  exact wpAny_pyIter_tuple (show s1.heap.IsTuple a its.toArray from p) (born I1 (turn_tuple a _) ⟨_, Heap.get?_push_size _ rfl, rfl, rfl⟩ (q hz))⟩
theorem pi_lB (K : PySem.W.Frag) {tg l : Expr} {tl : TE} (hl : PE X l tl) (h : X.K = K := by rfl) : PI X tg l (iListB K tl) := h ▸ pi_listB hl
theorem pi_tB (K : PySem.W.Frag) {tg l : Expr} {tl : TE} (hl : PE X l tl) (h : X.K = K := by rfl) : PI X tg l (iTupB K tl) := h ▸ pi_tupB hl
end
end L2
namespace G
open PySem PySem.Spec PyProof.Rows L2 PySem.W
section
variable {tx : XC → Addr} {Y : YC} {Γ : List Cell} {te ta tb tc td tl : TE} {t u tt : TT} {α β γ δ ε σ τ ρ : Type} {d : Dat α} {d1 : Dat α} {d2 : Dat β} {d3 : Dat γ} {g : TG} {ts t1 t2 rest : TS} {js js' vs : List Nat}
/-! ### what a for walks -/
def Ie (tx : XC → Addr) (Y : YC) (ti : TI) (Γ : List Cell) {α : Type} (d : Dat α) (m : M (List α)) : Prop := m.nb → XkM tx Y Γ m → ∀ (g : TG) (ts : TS) (k : Ks), (∀ xs, m = .ok xs → Body Y g ts d k (fun i => xs[i]?) xs.length Γ) → Z Y (tFor ti g ts) Γ k
theorem ie_eq {ti : TI} {m m' : M (List α)} (h : Ie tx Y ti Γ d m) (e : m = m') : Ie tx Y ti Γ d m' := e ▸ h
theorem ie_list {m : M (List α)} (h : We tx Y tl Γ (dList (d := d)) m) : Ie tx Y (iList Y.K tl) Γ d m := fun nb xk g ts k hb => z_for (w_mono (h nb xk) fun xs e => hb xs e)
theorem ie_tup {m : M (Tup α)} (h : We tx Y tl Γ (dTup (d := d)) m) : Ie tx Y (iTup Y.K tl) Γ d (m >>= fun xs => .ok xs.l) := fun nb xk g ts k hb => z_forT (h.k nb xk fun xs e _ _ => hb xs.l (by rw [e]; rfl))
theorem ie_range {m : M Int} (h : Re tx Y ta Γ dInt m) : Ie tx Y (iRng1 (tCons ta tNil)) Γ dInt (m >>= M.range) := fun nb xk g ts k hb => z_range (h.k nb xk fun n e nb2 _ => by
  have hp := M.asrt_nb nb2
  refine ⟨hp.1, Int.lt_of_le_of_lt hp.2 (by decide), ?_⟩
  have := hb (rngL 0 n.toNat) (by rw [e]; exact M.asrt_pos hp)
  rw [rngL_len] at this
  rw [show rng 0 n.toNat = fun i => (rngL 0 n.toNat)[i]? from funext fun i => rng_get 0 n.toNat i]
  exact this)
theorem ie_enum {m : M (List α)} (h : We tx Y te Γ (dList (d := d)) m) : Ie tx Y (iEnum Y.K (tCons te tNil)) Γ (dPair (d1 := dInt) (d2 := d)) (m >>= fun xs => .ok (M.enumL xs)) := fun nb xk g ts k hb => z_enum (h.k nb xk fun xs e _ _ => by
  have := hb (M.enumL xs) (by rw [e]; rfl)
  rw [M.enumL_len] at this
  rw [show enumI xs = fun i => (M.enumL xs)[i]? from funext fun i => M.enumL_get xs i]
  exact this)
theorem ie_enumT {m : M (Tup α)} (h : We tx Y te Γ (dTup (d := d)) m) : Ie tx Y (iEnumT Y.K (tCons te tNil)) Γ (dPair (d1 := dInt) (d2 := d)) (m >>= fun xs => .ok (M.enumL xs.l)) := fun nb xk g ts k hb => z_enumT (h.k nb xk fun xs e _ _ => by
  have := hb (M.enumL xs.l) (by rw [e]; rfl)
  rw [M.enumL_len] at this
  rw [show enumI xs.l = fun i => (M.enumL xs.l)[i]? from funext fun i => M.enumL_get xs.l i]
  exact this)
/-- a written pair is walked -/
theorem w_pairL {k : Tup α → Prop} (h : W Y te Γ (dPair (d1 := d) (d2 := d)) fun x => k ⟨[x.1, x.2]⟩) : W Y te Γ (dTup (d := d)) k := fun e F σ H s Q q => h e F σ H s Q fun v F' H' x kx g ⟨a, v1, v2, e1, ht, r1, r2⟩ => q v F' H' _ kx g ⟨a, _, e1, ht, r1, r2, trivial⟩
theorem we_pairL {m : M (α × α)} (h : We tx Y te Γ (dPair (d1 := d) (d2 := d)) m) : We tx Y te Γ (dTup (d := d)) (m >>= fun x => .ok ⟨[x.1, x.2]⟩) := we_p1w (f := fun x : α × α => (⟨[x.1, x.2]⟩ : Tup α)) (fun k h => w_pairL h) h
/-! ### comprehensions -/
def Ic (tx : XC → Addr) (Y : YC) (ti : TI) (Γ : List Cell) {α : Type} (d : Dat α) (m : M (List α)) : Prop := m.nb → XkM tx Y Γ m → ∀ {β : Type} (d2 : Dat β) (g : TG) (tt : TT) (te : TE) (vs : List Nat) (kx : List β → Prop), (Tg g vs ∧ MoG g) →
  (∀ xs, m = .ok xs → xs.length ≤ PySem.sizeLine → CompB Y g tt te d d2 kx (fun i => xs[i]?) xs.length (wipeC Γ vs)) → O Y (tLc ti g tt te vs) Γ (oList (d := d2)) kx
theorem ic_list {m : M (List α)} (h : We tx Y tl Γ (dList (d := d)) m) : Ic tx Y (iListB Y.K tl) Γ d m := fun nb xk β d2 g tt te vs kx hT hb e F σ H s Q q => h nb xk e F σ H s _ fun v F1 H1 xs hm g1 ⟨a, us, e1, hq, r⟩ => by
  subst e1
  refine ⟨a, us, rfl, g1.fh.seq hq, fun hz D hD => ?_⟩
  obtain ⟨I, h0, hs, hd⟩ := hb xs hm (by rw [← r.len]; exact hz)
  have kw0 : Wk ⟨F1, H1, []⟩ F1 [(D, .lst [])] (upd H1 D (.lst [])) := g1.base.own hD (fun _ z => by cases z)
  refine lc_list (K := Y.K) (a := a) (xs := us) (fun i H => ∃ F' acc ys, Wk ⟨F1, H1, []⟩ F' [(D, .lst acc)] H ∧ Reps d2 Y.g F' acc ys ∧ I i ys) ⟨F1, [], [], kw0, trivial, h0⟩ (fun i H _ ⟨F', acc, ys, kw, _⟩ => (kw.ff.trans kw.fh).seq hq) (fun i w H hw p => ?_) fun H ⟨F', acc, ys, kw, ra, hi⟩ => ?_
  · obtain ⟨x, hx, rx⟩ := r.getV hw
    exact comp_turn (s.grow g1) hT.1 (hs i x · hx) (fun F' sm => d.mono sm rx) p
  · rw [r.len] at hi
    exact q _ F' H _ ys (hd ys hi) (by simpa using g1.trans kw) ⟨D, acc, rfl, rfl, ra⟩
theorem ic_tup {m : M (Tup α)} (h : We tx Y tl Γ (dTup (d := d)) m) : Ic tx Y (iTupB Y.K tl) Γ d (m >>= fun xs => .ok xs.l) := fun nb xk β d2 g tt te vs kx hT hb e F σ H s Q q => h.k nb xk (k := fun xs => m = .ok xs) (fun xs e _ _ => e) e F σ H s _ fun v F1 H1 xs hm g1 ⟨a, us, e1, hq, r⟩ => by
  subst e1
  refine ⟨a, us, rfl, (hq.mono g1.fh).sq, fun hz D hD => ?_⟩
  obtain ⟨I, h0, hs, hd⟩ := hb xs.l (by rw [hm]; rfl) (by rw [← r.len]; exact hz)
  have kw0 : Wk ⟨F1, H1, []⟩ F1 [(D, .lst [])] (upd H1 D (.lst [])) := g1.base.own hD (fun _ z => by cases z)
  refine lc_tup (K := Y.K) (a := a) (xs := us) (fun i H => ∃ F' acc ys, Wk ⟨F1, H1, []⟩ F' [(D, .lst acc)] H ∧ Reps d2 Y.g F' acc ys ∧ I i ys) ⟨F1, [], [], kw0, trivial, h0⟩ (fun i H _ ⟨F', acc, ys, kw, _⟩ => (hq.mono (kw.ff.trans kw.fh)).sq) (fun i w H hw p => ?_) fun H ⟨F', acc, ys, kw, ra, hi⟩ => ?_
  · obtain ⟨x, hx, rx⟩ := r.getV hw
    exact comp_turn (s.grow g1) hT.1 (hs i x · hx) (fun F' sm => d.mono sm rx) p
  · rw [r.len] at hi
    exact q _ F' H _ ys (hd ys hi) (by simpa using g1.trans kw) ⟨D, acc, rfl, rfl, ra⟩
theorem ic_range {m : M Int} (h : Re tx Y ta Γ dInt m) : Ic tx Y (iRng1 (tCons ta tNil)) Γ dInt (m >>= M.range) := fun nb xk β d2 g tt te vs kx hT hb => o_lcR hT (h.k nb xk fun n e nb2 _ => by
  have hp := M.asrt_nb nb2
  refine ⟨hp.1, Int.lt_of_le_of_lt hp.2 (by decide), ?_⟩
  have := hb (rngL 0 n.toNat) (by rw [e]; exact M.asrt_pos hp) (by rw [rngL_len]; have := hp.2; omega)
  rw [rngL_len] at this
  rw [show rng 0 n.toNat = fun i => (rngL 0 n.toNat)[i]? from funext fun i => rng_get 0 n.toNat i]
  exact this)
theorem te_yes : Te tx Y tYes Γ (.ok true) := fun _ _ => t_yes rfl
theorem oe_lc {ti : TI} {m0 : M (List α)} {p : α → M Bool} {f : α → M β} (hT : Tg g vs ∧ MoG g) (h : Ic tx Y ti Γ d m0) (hb : ∀ x, A Y g (wipeC Γ vs) d x fun Γ2 => Te tx (calm Y.g) tt Γ2 (p x) ∧ We tx (calm Y.g) te Γ2 d2 (f x)) :
    Oe tx Y (tLc ti g tt te vs) Γ (oList (d := d2)) (m0 >>= M.comp p f) := fun nb xk => h (M.nb1 nb) xk.l d2 g tt te vs _ hT fun xs e hz => by
  have nb2 : (M.comp p f xs).nb := M.nb2 nb e
  refine ⟨fun i ys => M.comp p f (xs.take i) = .ok ys ∧ ys.length ≤ i, ⟨rfl, Nat.le_refl _⟩, fun i x ys hx ⟨hi, hl⟩ => ?_, fun ys ⟨hi, _⟩ => ?_⟩
  · have hx' : xs[i]? = some x := hx
    have hlt : i < xs.length := (List.getElem?_eq_some_iff.mp hx').1
    have htk : xs.take (i + 1) = xs.take i ++ [x] := by rw [List.take_add_one, hx']; rfl
    have e1 : M.comp p f (xs.take (i + 1)) = (M.comp p f [x] >>= fun b => .ok (ys ++ b)) := by rw [htk, M.comp_app, hi]; rfl
    have nb3 : (M.comp p f [x]).nb := fun z => nb2 (by
      have : xs = xs.take (i + 1) ++ xs.drop (i + 1) := (List.take_append_drop _ _).symm
      rw [this, M.comp_app, e1, z]; rfl)
    intro e0 F σ0 H v s r Q q
    refine hb x e0 F σ0 H v s r Q fun σ' Γ' ⟨ht, hw⟩ s' => q σ' Γ' ?_ s'
    simp only [M.comp] at nb3 e1
    obtain ⟨b, hb1⟩ := M.calm_nb (M.nb1 nb3)
    rw [hb1] at nb3 e1
    simp only [M.calm_of_ok, M.ok_bind] at nb3 e1
    refine t_mono (t_calm (ht (by rw [hb1]; exact fun z => nomatch z) (by rw [hb1]; exact XkM.ok))) fun b' eb => ⟨fun z => ?_, fun z => ?_⟩
    · rw [hb1] at eb
      cases eb
      subst z
      rw [if_pos rfl] at nb3 e1
      obtain ⟨y, hy⟩ := M.calm_nb (M.nb1 nb3)
      rw [hy] at e1
      refine w_mono (w_calm (hw (by rw [hy]; exact fun z => nomatch z) (by rw [hy]; exact XkM.ok))) fun y' ey => ?_
      rw [hy] at ey
      cases ey
      exact ⟨by omega, e1, by simp; omega⟩
    · rw [hb1] at eb
      cases eb
      subst z
      rw [if_neg (by simp)] at e1
      exact ⟨by rw [e1]; simp, by omega⟩
  · rw [List.take_length] at hi
    rw [e]
    exact hi
/-! ### statements -/
theorem wipeC_len (Γ : List Cell) : ∀ js, (wipeC Γ js).length = Γ.length
  | [] => rfl
  | j :: js => by unfold wipeC; rw [List.length_set, wipeC_len Γ js]
theorem wipeC_set {Γ : List Cell} {i : Nat} {c : Cell} : ∀ {js : List Nat}, i ∈ js → wipeC (Γ.set i c) js = wipeC Γ js
  | [], h => nomatch h
  | j :: js, h => by
    unfold wipeC
    by_cases hi : i ∈ js
    · rw [wipeC_set hi]
    · have e : i = j := by
        rcases List.mem_cons.mp h with h | h
        · exact h
        · exact absurd h hi
      subst e
      have q : ∀ (js : List Nat), i ∉ js → wipeC (Γ.set i c) js = (wipeC Γ js).set i c := by
        intro js
        induction js with
        | nil => intro _; rfl
        | cons m js ih =>
          intro h
          unfold wipeC
          rw [ih (fun z => h (List.mem_cons_of_mem _ z)), set_comm _ _ _ (fun z => h (by rw [z]; exact List.mem_cons_self))]
      rw [q js hi]
      exact List.set_set _
theorem z_wipe {k : Ks} : ∀ (js : List Nat) {Γ : List Cell}, Z Y ts (wipeC Γ js) k → Z Y ts Γ k
  | [], _, h => h
  | j :: js, Γ, h => by
    refine z_wipe js ?_
    unfold wipeC at h
    cases q : (wipeC Γ js)[j]? with
    | some c => exact z_forget j q h
    | none =>
      rw [List.set_eq_of_length_le (List.getElem?_eq_none_iff.mp q)] at h
      exact h
structure Kt (τ : Type) where
  nx : τ → List Cell → Prop
  rt : τ → Cell → List Cell → Prop
  bk : τ → List Cell → Prop
  ct : τ → List Cell → Prop
def Kt.ks {τ : Type} (K : Kt τ) (m : M τ) : Ks := ⟨fun Γ => ∃ t, m = .ok t ∧ K.nx t Γ, fun c Γ => ∃ t, m = .ok t ∧ K.rt t c Γ, fun Γ => ∃ t, m = .ok t ∧ K.bk t Γ, fun Γ => ∃ t, m = .ok t ∧ K.ct t Γ⟩
/-- a def's end -/
def KF {ρ : Type} (cell : ρ → Cell) : Kt ρ := ⟨fun t _ => .val dUnit () = cell t, fun t c _ => c = cell t, fun _ _ => False, fun _ _ => False⟩
/-- a turn's end -/
def KL {σ : Type} (js' : List Nat) (cells : σ → List Cell) : Kt σ := ⟨fun s Γ => wipeC Γ js' = cells s, fun _ _ _ => False, fun _ _ => False, fun s Γ => wipeC Γ js' = cells s⟩
/-- a turn's end, where a turn may leave -/
def KC {σ ρ : Type} (js' : List Nat) (cells : σ → List Cell) (cell : ρ → Cell) : Kt (Ct σ ρ) := ⟨fun t Γ => ∃ s, t = .nx s ∧ wipeC Γ js' = cells s, fun t c _ => ∃ r, t = .rt r ∧ c = cell r, fun t Γ => ∃ s, t = .bk s ∧ wipeC Γ js' = cells s, fun t Γ => ∃ s, t = .nx s ∧ wipeC Γ js' = cells s⟩
def Xk (tx : XC → Addr) (Y : YC) (js : List Nat) (Γ : List Cell) {τ : Type} (m : M τ) : Prop := ∀ x, m = .exc x → ∀ Γ', wipeC Γ' js = wipeC Γ js → Y.kx (x.x tx) Γ'
theorem Xk.here {m : M τ} (h : Xk tx Y js Γ m) : XkM tx Y Γ m := fun x e => h x e Γ rfl
theorem Xk.r {Γ2 : List Cell} {m : M σ} {f : σ → M τ} {x : σ} (h : Xk tx Y js Γ (m >>= f)) (e : m = .ok x) (hw : wipeC Γ2 js = wipeC Γ js) : Xk tx Y js Γ2 (f x) := fun y e2 Γ' e3 => h y (by rw [e]; exact e2) Γ' (e3.trans hw)
theorem Xk.l {m : M σ} {f : σ → M τ} (h : Xk tx Y js Γ (m >>= f)) : Xk tx Y js Γ m := fun y e2 Γ' e3 => h y (by rw [e2]; rfl) Γ' e3
theorem Xk.w {Γ2 : List Cell} {m : M τ} (h : Xk tx Y js Γ m) (hw : wipeC Γ2 js = wipeC Γ js) : Xk tx Y js Γ2 m := fun y e2 Γ' e3 => h y e2 Γ' (e3.trans hw)
/-- the statement does as the model says -/
def Zm (tx : XC → Addr) (Y : YC) (js : List Nat) (ts : TS) (Γ : List Cell) {τ : Type} (K : Kt τ) (m : M τ) : Prop := m.nb → Xk tx Y js Γ m → Z Y ts Γ (K.ks m)
variable {K : Kt τ}
theorem Zm.go {Γ2 : List Cell} {m1 : M σ} {f : σ → M τ} {x : σ} (h : Zm tx Y js rest Γ2 K (f x)) (nb : (m1 >>= f).nb) (xk : Xk tx Y js Γ (m1 >>= f)) (e : m1 = .ok x) (hw : wipeC Γ2 js = wipeC Γ js) : Z Y rest Γ2 (K.ks (m1 >>= f)) := by
  have := h (M.nb2 nb e) (xk.r e hw)
  rw [e]
  exact this
theorem zm_last {m : M τ} (h : Zm tx Y js (tSeq ts tNext) Γ K m) : Zm tx Y js ts Γ K m := h
theorem zm_assoc {m : M τ} (h : Zm tx Y js (tSeq t1 (tSeq t2 rest)) Γ K m) : Zm tx Y js (tSeq (tSeq t1 t2) rest) Γ K m := h
theorem zm_skip {m : M τ} (h : Zm tx Y js rest Γ K m) : Zm tx Y js (tSeq tNext rest) Γ K m := h
theorem zm_set {i : Nat} {c0 : Cell} {m1 : M α} {m2 : α → M τ} (hi : Γ[i]? = some c0) (hj : i ∈ js) (h : We tx Y te Γ d m1) (h2 : ∀ x, Zm tx Y js rest (Γ.set i (.val d x)) K (m2 x)) : Zm tx Y js (tSeq (tAsg te (gName i)) rest) Γ K (m1 >>= m2) := fun nb xk =>
  z_seq (z_set hi (w_mono (h (M.nb1 nb) xk.l.here) fun x e => (h2 x).go nb xk e (wipeC_set hj)))
theorem zm_setO {od : @OD α d} {i : Nat} {c0 : Cell} {m1 : M α} {m2 : α → M τ} (hi : Γ[i]? = some c0) (hj : i ∈ js) (h : Oe tx Y te Γ od m1) (h2 : ∀ x, Zm tx Y js rest (Γ.set i (.own d od none x)) K (m2 x)) : Zm tx Y js (tSeq (tAsg te (gName i)) rest) Γ K (m1 >>= m2) := fun nb xk =>
  z_seq (z_setO hi (o_mono (h (M.nb1 nb) xk.l.here) fun x e => (h2 x).go nb xk e (wipeC_set hj)))
theorem a_mono {x : α} {k k' : List Cell → Prop} (h : A Y g Γ d x k) (m : ∀ Γ, k Γ → k' Γ) : A Y g Γ d x k' := fun e F σ H v s r Q q => h e F σ H v s r Q fun σ' Γ' kx s' => q σ' Γ' (m Γ' kx) s'
theorem zm_setG {m1 : M α} {m2 : α → M τ} (h : We tx Y te Γ d m1) (h2 : ∀ x, A Y g Γ d x fun Γ2 => wipeC Γ2 js = wipeC Γ js ∧ Zm tx Y js rest Γ2 K (m2 x)) : Zm tx Y js (tSeq (tAsg te g) rest) Γ K (m1 >>= m2) := fun nb xk =>
  z_seq (z_setG (w_mono (h (M.nb1 nb) xk.l.here) fun x e => a_mono (h2 x) fun Γ2 ⟨hw, hz⟩ => hz.go nb xk e hw))
theorem zm_drop {m1 : M α} {m2 : M τ} (h : Re tx Y te Γ d m1) (h2 : Zm tx Y js rest Γ K m2) : Zm tx Y js (tSeq (tDrop te) rest) Γ K (m1 >>= fun _ => m2) := fun nb xk =>
  z_seq (z_drop (kt := fun _ => True) (r_mono (h (M.nb1 nb) xk.l.here) fun x e => Zm.go (f := fun _ => m2) (x := x) h2 nb xk e rfl))
theorem zm_frz {od : @OD α d} {x : α} {m : M τ} (i : Nat) (hi : Γ[i]? = some (.own d od none x)) (hj : i ∈ js) (h : Zm tx Y js ts (Γ.set i (.val d x)) K m) : Zm tx Y js ts Γ K m := fun nb xk => z_frz i hi (h nb (xk.w (wipeC_set hj)))
theorem zm_to {Γ2 : List Cell} {m : M τ} (e : Γ = Γ2) (h : Zm tx Y js ts Γ2 K m) : Zm tx Y js ts Γ K m := e ▸ h
/-! stores into what is owned -/
theorem zm_append {pin : Option V} {i : Nat} {xs : List α} {m1 : M α} {m2 : List α → M τ} (hi : Γ[i]? = some (.own (dList (d := d)) (oList (d := d)) pin xs)) (hj : i ∈ js) (h : We tx Y te Γ d m1) (h2 : ∀ ys, Zm tx Y js rest (Γ.set i (.own (dList (d := d)) (oList (d := d)) pin ys)) K (m2 ys)) :
    Zm tx Y js (tSeq (tDrop (tBM Y.K "list" rAppend (tVar i) (tCons te tNil))) rest) Γ K (M.push xs m1 >>= m2) := fun nb xk =>
  z_seq (z_append hi (w_mono (h (M.nb1 (M.nb1 nb)) fun x e => xk.here x (by unfold M.push; rw [e]; rfl)) fun y e => by
    have nb1 : (M.push xs m1).nb := M.nb1 nb
    unfold M.push at nb1
    rw [e] at nb1
    have hl := M.asrt_nb nb1
    exact ⟨hl, (h2 (xs ++ [y])).go nb xk (by rw [e]; exact M.push_ok hl) (wipeC_set hj)⟩))
theorem zm_pushO {od : @OD α d} {pin : Option V} {i : Nat} {xs : List α} {m1 : M α} {m2 : List α → M τ} (hi : Γ[i]? = some (.own (dList (d := d)) (oDeep od) pin xs)) (hj : i ∈ js) (h : Oe tx Y te Γ od m1) (h2 : ∀ ys, Zm tx Y js rest (Γ.set i (.own (dList (d := d)) (oDeep od) pin ys)) K (m2 ys)) :
    Zm tx Y js (tSeq (tDrop (tBM Y.K "list" rAppend (tVar i) (tCons te tNil))) rest) Γ K (M.push xs m1 >>= m2) := fun nb xk =>
  z_seq (z_appendO hi (o_mono (h (M.nb1 (M.nb1 nb)) fun x e => xk.here x (by unfold M.push; rw [e]; rfl)) fun y e => by
    have nb1 : (M.push xs m1).nb := M.nb1 nb
    unfold M.push at nb1
    rw [e] at nb1
    have hl := M.asrt_nb nb1
    exact ⟨hl, (h2 (xs ++ [y])).go nb xk (by rw [e]; exact M.push_ok hl) (wipeC_set hj)⟩))
/-- xs[i] = e -/
def M.setIx {α : Type} (xs : List α) (mi : M Int) (me : M α) : M (List α) := me >>= fun y => mi >>= fun n => match ixN xs.length n with | some j => .ok (xs.set j y) | none => .bad
theorem zm_setIx {pin : Option V} {i : Nat} {xs : List α} {mi : M Int} {m1 : M α} {m2 : List α → M τ} (hi : Γ[i]? = some (.own (dList (d := d)) (oList (d := d)) pin xs)) (hj : i ∈ js) (h : We tx Y te Γ d m1) (hx : Re tx Y tb Γ dInt mi) (h2 : ∀ ys, Zm tx Y js rest (Γ.set i (.own (dList (d := d)) (oList (d := d)) pin ys)) K (m2 ys)) :
    Zm tx Y js (tSeq (tAsg te (gSub (tVar i) tb rSetL)) rest) Γ K (M.setIx xs mi m1 >>= m2) := fun nb xk =>
  z_seq (z_setIx hi (h.k (M.nb1 nb) xk.l.here fun y e nb3 xk3 => hx.k nb3 xk3 fun n e2 nb4 _ => by
    cases q : ixN xs.length n with
    | none => simp only [q] at nb4; exact absurd rfl nb4
    | some j => exact ⟨j, rfl, (h2 (xs.set j y)).go nb xk (by unfold M.setIx; rw [e]; show (mi >>= _) = _; rw [e2]; show (match ixN xs.length n with | some j => _ | none => _) = _; rw [q]) (wipeC_set hj)⟩))
def M.popL {α : Type} (xs : List α) : M (List α × α) := match xs.getLast? with | some y => .ok (xs.dropLast, y) | none => .bad
theorem zm_pop {pin : Option V} {i j : Nat} {xs : List α} {c0 : Cell} {m2 : List α × α → M τ} (hi : Γ[i]? = some (.own (dList (d := d)) (oList (d := d)) pin xs)) (hij : (i == j) = false) (hj' : Γ[j]? = some c0) (hj : i ∈ js) (hjj : j ∈ js) (h2 : ∀ p, Zm tx Y js rest ((Γ.set i (.own (dList (d := d)) (oList (d := d)) pin p.1)).set j (.val d p.2)) K (m2 p)) :
    Zm tx Y js (tSeq (tAsg (tBM0 Y.K "list" rPop (tVar i)) (gName j)) rest) Γ K (M.popL xs >>= m2) := fun nb xk => by
  have nb1 : (M.popL xs).nb := M.nb1 nb
  cases q : xs.getLast? with
  | none => unfold M.popL at nb1; rw [q] at nb1; exact absurd rfl nb1
  | some y =>
    have e : M.popL xs = .ok (xs.dropLast, y) := by unfold M.popL; rw [q]
    have ex : xs = xs.dropLast ++ [y] := by
      obtain ⟨ys, rfl⟩ := List.getLast?_eq_some_iff.mp q
      simp
    have hne : i ≠ j := by simpa using hij
    refine z_seq (z_pop (xs := xs.dropLast) (y := y) (c0 := c0) (by rw [← ex]; exact hi) ?_ ((h2 (xs.dropLast, y)).go nb xk e ?_))
    · rw [List.getElem?_set_ne hne]; exact hj'
    · rw [wipeC_set hjj, wipeC_set hj]
def M.sadd (s : IS) (m : M Int) : M IS := m >>= fun y => M.asrt (s.l.length + 1 < PySem.scanBound) (.ok (isAdd s y))
theorem zm_sadd {i : Nat} {pin : Option V} {x : IS} {m1 : M Int} {m2 : IS → M τ} (hi : Γ[i]? = some (.own dSet oSet pin x)) (hj : i ∈ js) (h : Re tx Y te Γ dInt m1) (h2 : ∀ y, Zm tx Y js rest (Γ.set i (.own dSet oSet pin y)) K (m2 y)) :
    Zm tx Y js (tSeq (tDrop (tSAdd Y.w (tVar i) (tCons te tNil))) rest) Γ K (M.sadd x m1 >>= m2) := fun nb xk =>
  z_seq (z_sadd hi (h.k (M.nb1 nb) xk.l.here fun y e nb2 _ => ⟨M.asrt_nb nb2, (h2 (isAdd x y)).go nb xk (by unfold M.sadd; rw [e]; exact M.asrt_pos (M.asrt_nb nb2)) (wipeC_set hj)⟩))
def M.dput {α : Type} (x : DI α) (mk : M Int) (mv : M α) : M (DI α) := mv >>= fun y => mk >>= fun n => M.asrt (x.kv.length < PySem.sizeLine) (.ok ⟨putI x.kv n y⟩)
theorem zm_dput {tk tv : TE} {i : Nat} {pin : Option V} {x : DI α} {mk : M Int} {mv : M α} {m2 : DI α → M τ} (hi : Γ[i]? = some (.own (dDI (d := d)) (oDI (d := d)) pin x)) (hj : i ∈ js) (hv : We tx Y tv Γ d mv) (hk : Re tx Y tk Γ dInt mk) (h2 : ∀ y, Zm tx Y js rest (Γ.set i (.own (dDI (d := d)) (oDI (d := d)) pin y)) K (m2 y)) :
    Zm tx Y js (tSeq (sDPut (tVar i) tk tv) rest) Γ K (M.dput x mk mv >>= m2) := fun nb xk =>
  z_seq (z_dput hi (hv.k (M.nb1 nb) xk.l.here fun y e nb3 xk3 => hk.k nb3 xk3 fun n e2 nb4 _ => ⟨M.asrt_nb nb4, (h2 ⟨putI x.kv n y⟩).go nb xk (by unfold M.dput; rw [e]; show (mk >>= _) = _; rw [e2]; exact M.asrt_pos (M.asrt_nb nb4)) (wipeC_set hj)⟩))
/-! ways -/
theorem zm_if {mb : M Bool} {m1 m2 : M τ} (hb : Te tx Y t Γ mb) (h1 : Zm tx Y js (tSeq t1 rest) Γ K m1) (h2 : Zm tx Y js (tSeq t2 rest) Γ K m2) : Zm tx Y js (tSeq (tIfS t t1 t2) rest) Γ K (mb >>= fun b => if b then m1 else m2) := fun nb xk => by
  have : Z Y (tIfS t (tSeq t1 rest) (tSeq t2 rest)) Γ (K.ks (mb >>= fun b => if b then m1 else m2)) := z_if (t_mono (hb (M.nb1 nb) xk.l.here) fun b e => ⟨fun z => by
    subst z
    exact Zm.go (f := fun b => if b = true then m1 else m2) (x := true) h1 nb xk e rfl, fun z => by
    subst z
    exact Zm.go (f := fun b => if b = true then m1 else m2) (x := false) h2 nb xk e rfl⟩)
  intro e F σ H D hM s c
  have q := this e F σ H D hM s c
  refine Eq.mp ?_ q
  unfold tIfS tSeq
  rfl
theorem zm_ifP {b : Bool} {m1 m2 : M τ} (hb : Te tx Y t Γ (.ok b)) (h1 : Zm tx Y js (tSeq t1 rest) Γ K m1) (h2 : Zm tx Y js (tSeq t2 rest) Γ K m2) : Zm tx Y js (tSeq (tIfS t t1 t2) rest) Γ K (if b then m1 else m2) := zm_if hb h1 h2
theorem zm_ret {cell : τ → Cell} {d : Dat τ} {m : M τ} (h : We tx Y te Γ d m) (hc : cell = fun r => .val d r := by rfl) : Zm tx Y js (tSeq (tRet te) rest) Γ (KF cell) m := fun nb xk => by
  subst hc
  exact z_ret (te := te) (k := (KF fun r => Cell.val d r).ks m) (w_mono (h nb xk.here) fun x e => ⟨x, e, rfl⟩)
theorem zm_retO {cell : τ → Cell} {d : Dat τ} {od : OD τ} {m : M τ} (h : Oe tx Y te Γ od m) (hc : cell = fun r => .own d od none r := by rfl) : Zm tx Y js (tSeq (tRet te) rest) Γ (KF cell) m := fun nb xk => by
  subst hc
  exact z_retO (te := te) (k := (KF fun r => Cell.own d od none r).ks m) (o_mono (h nb xk.here) fun x e => ⟨x, e, rfl⟩)
theorem zm_retV {cell : τ → Cell} {d : Dat τ} {od : OD τ} {i : Nat} {x : τ} (hi : Γ[i]? = some (.own d od none x)) (hc : cell = fun r => .own d od none r := by rfl) : Zm tx Y js (tSeq (tRet (tVar i)) rest) Γ (KF cell) (.ok x) := fun nb xk => by
  subst hc
  exact z_retV (k := (KF fun r => Cell.own d od none r).ks (M.ok x)) hi ⟨x, rfl, rfl⟩
theorem zm_end {cell : Unit → Cell} (hc : cell = fun r => .val dUnit r := by rfl) : Zm tx Y js tNext Γ (KF cell) (.ok ()) := fun nb xk => by
  subst hc
  exact z_next (k := (KF fun r => Cell.val dUnit r).ks (M.ok ())) ⟨(), rfl, rfl⟩
variable {cells : σ → List Cell} {cell : ρ → Cell} {s : σ}
theorem zm_retC {d : Dat ρ} {m : M ρ} (h : We tx Y te Γ d m) (hc : cell = fun r => .val d r := by rfl) : Zm tx Y js (tSeq (tRet te) rest) Γ (KC js' cells cell) (m >>= fun r => .ok (.rt r)) := fun nb xk => by
  subst hc
  exact z_ret (te := te) (k := (KC js' cells fun r => Cell.val d r).ks (m >>= fun r => .ok (.rt r))) (w_mono (h (M.nb1 nb) xk.l.here) fun x e => ⟨.rt x, by rw [e]; rfl, x, rfl, rfl⟩)
theorem zm_nextL (h : wipeC Γ js' = cells s) : Zm tx Y js tNext Γ (KL js' cells) (.ok s) := fun nb xk => z_next (k := (KL js' cells).ks (M.ok s)) ⟨s, rfl, h⟩
theorem zm_nextC (h : wipeC Γ js' = cells s) : Zm tx Y js tNext Γ (KC js' cells cell) (.ok (.nx s)) := fun nb xk => z_next (k := (KC js' cells cell).ks (M.ok (.nx s))) ⟨.nx s, rfl, s, rfl, h⟩
theorem zm_breakC (h : wipeC Γ js' = cells s) : Zm tx Y js (tSeq tBreak rest) Γ (KC js' cells cell) (.ok (.bk s)) := fun nb xk => z_break (k := (KC js' cells cell).ks (M.ok (.bk s))) ⟨.bk s, rfl, s, rfl, h⟩
/-- ways that meet: no turn ends here -/
def KJ {σ : Type} (js' : List Nat) (cells : σ → List Cell) : Kt σ := ⟨fun s Γ => wipeC Γ js' = cells s, fun _ _ _ => False, fun _ _ => False, fun _ _ => False⟩
theorem zm_nextJ (h : wipeC Γ js' = cells s) : Zm tx Y js tNext Γ (KJ js' cells) (.ok s) := fun nb xk => z_next (k := (KJ js' cells).ks (M.ok s)) ⟨s, rfl, h⟩
theorem zm_join (js' : List Nat) (cells : σ → List Cell) {m1 : M σ} {m2 : σ → M τ} (hw : ∀ s, wipeC (cells s) js = wipeC Γ js) (h1 : Zm tx Y js t1 Γ (KJ js' cells) m1) (h2 : ∀ s, Zm tx Y js rest (cells s) K (m2 s)) : Zm tx Y js (tSeq t1 rest) Γ K (m1 >>= m2) := fun nb xk =>
  z_seq (z_mono (h1 (M.nb1 nb) xk.l) (fun Γ' ⟨s, e, hs⟩ => z_wipe js' (by rw [show wipeC Γ' js' = cells s from hs]; exact (h2 s).go nb xk e (hw s))) (fun _ _ ⟨_, _, z⟩ => z.elim) (fun _ ⟨_, _, z⟩ => z.elim) fun Γ' ⟨s, e, z⟩ => z.elim)
/-! loops -/
theorem zm_for {ti : TI} (js' : List Nat) (cells : σ → List Cell) (s0 : σ) {m0 : M (List α)} {f : σ → α → M σ} {m2 : σ → M τ} (hw0 : wipeC (wipeC Γ js') js = wipeC Γ js) (h0 : wipeC Γ js' = cells s0) (hw : ∀ s, wipeC (cells s) js = wipeC Γ js) (h : Ie tx Y ti (cells s0) d m0)
    (hb : ∀ s x, A Y g (cells s) d x fun Γ2 => wipeC Γ2 js = wipeC Γ js ∧ Zm tx Y js ts Γ2 (KL js' cells) (f s x)) (h2 : ∀ s, Zm tx Y js rest (cells s) K (m2 s)) : Zm tx Y js (tSeq (tFor ti g ts) rest) Γ K (m0 >>= fun xs => M.fold f s0 xs >>= m2) := fun nb xk => by
  refine z_wipe js' (by
    rw [h0]
    refine z_seq (h (M.nb1 nb) ((xk.w (hw s0)).l.here) g ts _ fun xs e => ?_)
    have nb1 : (M.fold f s0 xs >>= m2).nb := M.nb2 (f := fun xs => M.fold f s0 xs >>= m2) nb e
    have nb2 : (M.fold f s0 xs).nb := M.nb1 nb1
    refine ⟨fun i Γ' => ∃ s, M.fold f s0 (xs.take i) = .ok s ∧ wipeC Γ' js' = cells s, ⟨s0, rfl, ?_⟩, fun i x Γ' hx ⟨s, es, hΓ⟩ => ?_, fun Γ' ⟨s, es, hΓ⟩ => ?_⟩
    · rw [← h0]
      have : ∀ js : List Nat, wipeC (wipeC Γ js) js = wipeC Γ js := by
        intro l
        suffices ∀ (l m : List Nat), (∀ j ∈ m, j ∈ l) → wipeC (wipeC Γ l) m = wipeC Γ l from this l l fun _ h => h
        intro l m hm
        induction m with
        | nil => rfl
        | cons j m ih =>
          show (wipeC (wipeC Γ l) m).set j .no = _
          rw [ih fun k hk => hm k (List.mem_cons_of_mem _ hk)]
          have : ∀ l : List Nat, j ∈ l → (wipeC Γ l).set j .no = wipeC Γ l := by
            intro l hl
            induction l with
            | nil => exact nomatch hl
            | cons k l ih2 =>
              show ((wipeC Γ l).set k .no).set j .no = (wipeC Γ l).set k .no
              by_cases hk : j = k
              · subst hk; exact List.set_set _
              · rw [set_comm _ _ _ (fun z => hk z.symm), ih2 ((List.mem_cons.mp hl).resolve_left hk)]
          exact this l (hm j List.mem_cons_self)
      exact this js'
    · have htk : xs.take (i + 1) = xs.take i ++ [x] := by rw [List.take_add_one, show xs[i]? = some x from hx]; rfl
      have hs1 : M.fold f s0 (xs.take (i + 1)) = f s x := by rw [htk, M.fold_app, es]; show M.fold f s [x] = _; simp [M.fold]
      have hall : M.fold f s0 xs = (f s x >>= fun s' => M.fold f s' (xs.drop (i + 1))) := by
        have : xs = xs.take (i + 1) ++ xs.drop (i + 1) := (List.take_append_drop _ _).symm
        rw [this, M.fold_app, hs1, ← this]
      have nb3 : (f s x).nb := fun z => nb2 (by rw [hall, z]; rfl)
      have xk3 : ∀ {Γ2 : List Cell}, wipeC Γ2 js = wipeC Γ js → Xk tx Y js Γ2 (f s x) := fun {Γ2} hΓ2 y ey Γ' e3 => xk y (by rw [e]; show (M.fold f s0 xs >>= m2) = _; rw [hall, ey]; rfl) Γ' (e3.trans hΓ2)
      refine fun e0 F σ0 H v st r Q q => ?_
      have st2 : State Y e0 F σ0 H Γ' := st
      refine (show A Y g Γ' d x _ from ?_) e0 F σ0 H v st r Q q
      have hA := hb s x
      rw [← hΓ] at hA
      have lift : ∀ (js' : List Nat) (Γ' : List Cell) (k : List Cell → Prop), A Y g (wipeC Γ' js') d x k → A Y g Γ' d x k := by
        intro l
        induction l with
        | nil => intro _ _ h; exact h
        | cons j l ih =>
          intro Γ' k h
          refine ih Γ' k ?_
          unfold wipeC at h
          cases q : (wipeC Γ' l)[j]? with
          | some c => exact fun e F σ H v s r Q q' => h e F σ H v (s.hide q) r Q q'
          | none =>
            rw [List.set_eq_of_length_le (List.getElem?_eq_none_iff.mp q)] at h
            exact h
      refine lift js' Γ' _ (a_mono hA fun Γ2 ⟨hΓ2, hz⟩ => ?_)
      exact z_mono (hz nb3 (xk3 hΓ2)) (fun Γ3 ⟨s', e', h'⟩ => ⟨s', by rw [hs1]; exact e', h'⟩) (fun _ _ ⟨_, _, z⟩ => z.elim) (fun _ ⟨_, _, z⟩ => z.elim) fun Γ3 ⟨s', e', h'⟩ => ⟨s', by rw [hs1]; exact e', h'⟩
    · rw [List.take_length] at es
      refine z_wipe js' ?_
      rw [hΓ]
      have hz := Zm.go (f := m2) (x := s) (m1 := M.fold f s0 xs) (Γ := Γ) (h2 s) nb1 (Xk.r (f := fun xs => M.fold f s0 xs >>= m2) xk e rfl) es (hw s)
      rw [e]
      exact hz)
theorem wipeC_idem (Γ : List Cell) (js : List Nat) : wipeC (wipeC Γ js) js = wipeC Γ js := by
  suffices ∀ (l m : List Nat), (∀ j ∈ m, j ∈ l) → wipeC (wipeC Γ l) m = wipeC Γ l from this js js fun _ h => h
  intro l m hm
  induction m with
  | nil => rfl
  | cons j m ih =>
    show (wipeC (wipeC Γ l) m).set j .no = _
    rw [ih fun k hk => hm k (List.mem_cons_of_mem _ hk)]
    have : ∀ l : List Nat, j ∈ l → (wipeC Γ l).set j .no = wipeC Γ l := by
      intro l hl
      induction l with
      | nil => exact nomatch hl
      | cons k l ih2 =>
        show ((wipeC Γ l).set k .no).set j .no = (wipeC Γ l).set k .no
        by_cases hk : j = k
        · subst hk; exact List.set_set _
        · rw [set_comm _ _ _ (fun z => hk z.symm), ih2 ((List.mem_cons.mp hl).resolve_left hk)]
    exact this l (hm j List.mem_cons_self)
theorem a_wipe {x : α} : ∀ (js' : List Nat) {Γ' : List Cell} {k : List Cell → Prop}, A Y g (wipeC Γ' js') d x k → A Y g Γ' d x k
  | [], _, _, h => h
  | j :: l, Γ', k, h => by
    refine a_wipe l ?_
    unfold wipeC at h
    cases q : (wipeC Γ' l)[j]? with
    | some c => exact fun e F σ H v s r Q q' => h e F σ H v (s.hide q) r Q q'
    | none =>
      rw [List.set_eq_of_length_le (List.getElem?_eq_none_iff.mp q)] at h
      exact h
theorem t_wipe {k : Bool → Prop} : ∀ (js' : List Nat) {Γ' : List Cell}, T Y t (wipeC Γ' js') k → T Y t Γ' k
  | [], _, h => h
  | j :: l, Γ', h => by
    refine t_wipe l ?_
    unfold wipeC at h
    cases q : (wipeC Γ' l)[j]? with
    | some c => exact fun e F σ H s Q q' => h e F σ H (s.hide q) Q q'
    | none =>
      rw [List.set_eq_of_length_le (List.getElem?_eq_none_iff.mp q)] at h
      exact h
/-- a for whose turns may leave -/
theorem zm_forC {ti : TI} (js' : List Nat) (cells : σ → List Cell) (cell : ρ → Cell) (s0 : σ) {m0 : M (List α)} {f : σ → α → M (Ct σ ρ)} {mr : ρ → M τ} {m2 : σ → M τ} (hw0 : wipeC (wipeC Γ js') js = wipeC Γ js) (h0 : wipeC Γ js' = cells s0) (hw : ∀ s, wipeC (cells s) js = wipeC Γ js) (h : Ie tx Y ti (cells s0) d m0)
    (hb : ∀ s x, A Y g (cells s) d x fun Γ2 => wipeC Γ2 js = wipeC Γ js ∧ Zm tx Y js ts Γ2 (KC js' cells cell) (f s x)) (hr : ∀ r Γ', ∃ t, mr r = .ok t ∧ K.rt t (cell r) Γ') (h2 : ∀ s, Zm tx Y js rest (cells s) K (m2 s)) : Zm tx Y js (tSeq (tFor ti g ts) rest) Γ K (m0 >>= fun xs => M.foldC f s0 xs >>= fun c => c.go mr m2) := fun nb xk => by
  refine z_wipe js' (by
    rw [h0]
    refine z_seq (h (M.nb1 nb) ((xk.w (hw s0)).l.here) g ts _ fun xs e => ?_)
    have nb1 : (M.foldC f s0 xs >>= fun c => c.go mr m2).nb := M.nb2 (f := fun xs => M.foldC f s0 xs >>= fun c => c.go mr m2) nb e
    have nb2 : (M.foldC f s0 xs).nb := M.nb1 nb1
    -- behind the loop
    have fin : ∀ (s : σ) (c : Ct σ ρ) (Γ' : List Cell), M.foldC f s0 xs = .ok c → (c = .nx s ∨ c = .bk s) → wipeC Γ' js' = cells s → Z Y rest Γ' (K.ks (m0 >>= fun xs => M.foldC f s0 xs >>= fun c => c.go mr m2)) := fun s c Γ' es hc hΓ => by
      refine z_wipe js' ?_
      rw [hΓ]
      have hg : c.go mr m2 = m2 s := by rcases hc with z | z <;> (subst z; rfl)
      have hz := Zm.go (f := fun c : Ct σ ρ => c.go mr m2) (x := c) (show Zm tx Y js rest (cells s) K (c.go mr m2) from by rw [hg]; exact h2 s) (m1 := M.foldC f s0 xs) (Γ := Γ) nb1 (Xk.r (f := fun xs => M.foldC f s0 xs >>= fun c => c.go mr m2) xk e rfl) es (hw s)
      rw [e]
      exact hz
    refine ⟨fun i Γ' => ∃ s, M.foldC f s0 (xs.take i) = .ok (.nx s) ∧ wipeC Γ' js' = cells s, ⟨s0, rfl, by rw [← h0]; exact wipeC_idem Γ js'⟩, fun i x Γ' hx ⟨s, es, hΓ⟩ => ?_, fun Γ' ⟨s, es, hΓ⟩ => ?_⟩
    · have htk : xs.take (i + 1) = xs.take i ++ [x] := by rw [List.take_add_one, show xs[i]? = some x from hx]; rfl
      have hs1 : M.foldC f s0 (xs.take (i + 1)) = f s x := by
        rw [htk, M.foldC_app, es]; show M.foldC f s [x] = _
        simp only [M.foldC]
        cases f s x with
        | bad => rfl
        | exc x => rfl
        | ok c => cases c <;> rfl
      have hall : M.foldC f s0 xs = (f s x >>= fun c => match c with | .nx s' => M.foldC f s' (xs.drop (i + 1)) | c => .ok c) := by
        have : xs = xs.take (i + 1) ++ xs.drop (i + 1) := (List.take_append_drop _ _).symm
        rw [this, M.foldC_app, hs1, ← this]
        all_goals (cases f s x with
        | bad => rfl
        | exc x => rfl
        | ok c => cases c <;> rfl)
      have nb3 : (f s x).nb := fun z => nb2 (by rw [hall, z]; rfl)
      have xk3 : ∀ {Γ2 : List Cell}, wipeC Γ2 js = wipeC Γ js → Xk tx Y js Γ2 (f s x) := fun {Γ2} hΓ2 y ey Γ' e3 => xk y (by rw [e]; show (M.foldC f s0 xs >>= _) = _; rw [hall, ey]; rfl) Γ' (e3.trans hΓ2)
      have hA := hb s x
      rw [← hΓ] at hA
      refine a_wipe js' (a_mono hA fun Γ2 ⟨hΓ2, hz⟩ => ?_)
      refine z_mono (hz nb3 (xk3 hΓ2)) (fun Γ3 ⟨c, e', s', ec, h'⟩ => ⟨s', by rw [hs1, e', ec], h'⟩) (fun c Γ3 ⟨t, e', r, er, hc⟩ => ?_) (fun Γ3 ⟨c, e', s', ec, h'⟩ => ?_) fun Γ3 ⟨c, e', s', ec, h'⟩ => ⟨s', by rw [hs1, e', ec], h'⟩
      · subst er hc
        obtain ⟨t2, e2, hk⟩ := hr r Γ3
        exact ⟨t2, by rw [e]; show (M.foldC f s0 xs >>= _) = _; rw [hall, e']; exact e2, hk⟩
      · subst ec
        exact fin s' (.bk s') Γ3 (by rw [hall, e']; rfl) (.inr rfl) h'
    · rw [List.take_length] at es
      exact fin s (.nx s) Γ' es (.inl rfl) hΓ)
theorem zm_while (js' : List Nat) (cells : σ → List Cell) (s0 : σ) {c : σ → M Bool} {f : σ → M σ} {m2 : σ → M τ} (h0 : wipeC Γ js' = cells s0) (hw : ∀ s, wipeC (cells s) js = wipeC Γ js)
    (hc : ∀ s, Te tx Y t (cells s) (c s)) (hb : ∀ s, Zm tx Y js ts (cells s) (KL js' cells) (f s)) (h2 : ∀ s, Zm tx Y js rest (cells s) K (m2 s)) : Zm tx Y js (tSeq (tWhile t ts) rest) Γ K (M.loop c f s0 >>= m2) := fun nb xk => by
  obtain ⟨n, hn, hl⟩ := M.loop_nb (M.nb1 nb)
  refine z_wipe js' ?_
  rw [h0]
  refine z_seq (z_while (fun m Γ' => ∃ s, wipeC Γ' js' = cells s ∧ M.loopN c f m s = M.loop c f s0 ∧ M.loopN c f m s ≠ .bad) ⟨n, s0, by rw [← h0]; exact wipeC_idem Γ js', hl.symm, hn⟩ fun m Γ' ⟨s, hΓ, hm, hnb⟩ => ?_)
  cases m with
  | zero => exact absurd rfl hnb
  | succ m =>
    unfold M.loopN at hm hnb
    have nbc : (c s).nb := fun z => hnb (by rw [z]; rfl)
    have xkc : XkM tx Y (cells s) (c s) := fun y ey => (xk.w (hw s)).here y (by rw [← hm, ey]; rfl)
    refine t_wipe js' ?_
    rw [hΓ]
    refine t_mono (hc s nbc xkc) fun b eb => ⟨fun z => ?_, fun z => ?_⟩
    · subst z
      rw [eb] at hm hnb
      simp only [M.ok_bind, if_true] at hm hnb
      refine z_wipe js' ?_
      rw [hΓ]
      have nbf : (f s).nb := fun z => hnb (by rw [z]; rfl)
      have fin : ∀ (s' : σ) (Γ3 : List Cell), f s = .ok s' → wipeC Γ3 js' = cells s' → ∃ m', m' < m + 1 ∧ ∃ s, wipeC Γ3 js' = cells s ∧ M.loopN c f m' s = M.loop c f s0 ∧ M.loopN c f m' s ≠ .bad := fun s' Γ3 e' h' => by
        rw [e'] at hm hnb
        exact ⟨m, Nat.lt_succ_self m, s', h', hm, hnb⟩
      exact z_mono (hb s nbf fun y ey Γ2 e3 => xk y (by rw [← hm, ey]; rfl) Γ2 (e3.trans (hw s))) (fun Γ3 ⟨s', e', h'⟩ => fin s' Γ3 e' h') (fun _ _ ⟨_, _, z⟩ => z.elim) (fun _ ⟨_, _, z⟩ => z.elim) fun Γ3 ⟨s', e', h'⟩ => fin s' Γ3 e' h'
    · subst z
      rw [eb] at hm
      refine z_wipe js' ?_
      rw [hΓ]
      exact (h2 s).go nb xk (by rw [← hm]; rfl) (hw s)
/-- returns through, of defs and of turns -/
theorem rt_KF {cell : τ → Cell} : ∀ (r : τ) (Γ' : List Cell), ∃ t, (M.ok r : M τ) = .ok t ∧ (KF cell).rt t (cell r) Γ' := fun r _ => ⟨r, rfl, rfl⟩
theorem rt_KC : ∀ (r : ρ) (Γ' : List Cell), ∃ t, (M.ok (Ct.rt r) : M (Ct σ ρ)) = .ok t ∧ (KC js' cells cell).rt t (cell r) Γ' := fun r _ => ⟨.rt r, rfl, r, rfl, rfl⟩
/-! ### the body of a def -/
theorem Zm.body {C : GCtx} {N : List Str} {cell : τ → Cell} {m : M τ} {vs : List V} {H : Hp} {Q : VK} {E : XK} (nb : m.nb) (h : FnX C Γ (fun c => ∃ r, c = cell r ∧ m = .ok r) (fun x => ∃ px, m = .exc px ∧ x = px.x tx) vs H Q E)
    (hz : Zm tx ⟨C, fun _ => E, fun x _ => ∃ px, m = .exc px ∧ x = px.x tx⟩ js ts (Γ ++ List.replicate (N.length - Γ.length) .no) (KF cell) m) : ts { nx := fun _ H' => Q .non H', rt := Q } (L2.start N vs) H :=
  h.body (z_mono (hz nb fun x e Γ' _ => ⟨x, e, rfl⟩) (fun Γ' ⟨t, e, q⟩ => ⟨t, q, e⟩) (fun c Γ' ⟨t, e, q⟩ => ⟨t, q, e⟩) (fun _ ⟨_, _, z⟩ => z) fun _ ⟨_, _, z⟩ => z)
/-- .. of a def that lets nothing out -/
theorem Zm.body0 {C : GCtx} {N : List Str} {cell : τ → Cell} {m : M τ} {x : τ} {vs : List V} {H : Hp} {Q : VK} (e : m = .ok x) (h : Fn C Γ (fun c => c = cell x) vs H Q)
    (hz : Zm tx (calm C) js ts (Γ ++ List.replicate (N.length - Γ.length) .no) (KF cell) m) : ts { nx := fun _ H' => Q .non H', rt := Q } (L2.start N vs) H := by
  subst e
  exact h.body (z_mono (hz (fun z => nomatch z) fun x e => nomatch e) (fun Γ' ⟨t, e, q⟩ => by cases e; exact q) (fun c Γ' ⟨t, e, q⟩ => by cases e; exact q) (fun _ ⟨_, _, z⟩ => z) fun _ ⟨_, _, z⟩ => z)
end
end G
end

noncomputable section
/-! M3: exceptions and instances, with models. -/
namespace G
open PySem PySem.Spec PyProof.Rows L2 PySem.W
def M.raise1 {α : Type} (c : XC) (f : Str) (m : M Int) : M α := m >>= fun n => .exc ⟨c, some [(f, .int n)]⟩
def M.raise2 {α : Type} (c : XC) (f1 f2 : Str) (m1 m2 : M Int) : M α := m1 >>= fun n => m2 >>= fun n2 => .exc ⟨c, some [(f2, .int n2), (f1, .int n)]⟩
/-- try: m; except: h, for the classes that p tells; kn: the classes that are known -/
def M.tryK {α : Type} (kn p : XC → Bool) (m : M α) (h : PX → M α) : M α := match m with | .exc x => if kn x.cls then (if p x.cls then h x else .exc x) else .bad | m => m
/-- e.f where e is of the class c -/
def PX.fld (x : PX) (c : XC) (f : Str) : M Int := if x.cls = c then (match x.fs with | some fs => (match fs.lookup f with | some (.int n) => .ok n | _ => .bad) | none => .bad) else .bad
section
variable {tx : XC → Addr} {Y : YC} {Γ : List Cell} {te ta tb tc td tl t1 t2 : TE} {α β γ τ : Type} {d : Dat α} {d1 : Dat α} {d2 : Dat β} {ts rest : TS} {js : List Nat} {K : Kt τ} {Cx : Addr} {f1 f2 : Str} {Wt : WX}
theorem zm_raise1 {c : XC} {m : M Int} (hE : Y.E = WE Wt) (hc : tx c = Cx) (h : Re tx Y te Γ dInt m) : Zm tx Y js (tSeq (fun _ σ H => tMkO Cx (spX1 Cx f1) [] (tCons te tNil) σ H fun cls d H' => Wt cls d σ H') rest) Γ K (M.raise1 c f1 m) := fun nb xk => by
  subst hc
  exact z_raise1 (k := K.ks (M.raise1 c f1 m)) hE (r_mono (h (M.nb1 nb) xk.l.here) fun n e => xk ⟨c, some [(f1, .int n)]⟩ (by unfold M.raise1; rw [e]; rfl) Γ rfl)
theorem zm_raise2 {c : XC} {m n : M Int} (hE : Y.E = WE Wt) (hc : tx c = Cx) (h : Re tx Y t1 Γ dInt m) (h2 : Re tx Y t2 Γ dInt n) : Zm tx Y js (tSeq (fun _ σ H => tMkO Cx (spX2 Cx f1 f2) [] (tCons t1 (tCons t2 tNil)) σ H fun cls d H' => Wt cls d σ H') rest) Γ K (M.raise2 c f1 f2 m n) := fun nb xk => by
  subst hc
  refine z_raise2 (k := K.ks (M.raise2 c f1 f2 m n)) hE (h.k nb xk.here fun x e nb3 xk3 => r_mono (h2 (M.nb1 nb3) xk3.l) fun y e2 => xk ⟨c, some [(f2, .int y), (f1, .int x)]⟩ ?_ Γ rfl)
  unfold M.raise2; rw [e]; show (n >>= _) = _; rw [e2]; rfl
/-! making an instance -/
/-- the end of an __init__ -/
def KI {α : Type} {d : Dat α} (od : OD α) (p : Addr) : Kt α := ⟨fun t Γ => Γ[0]? = some (.own d od (some (.ref p)) t), fun _ _ _ => False, fun _ _ => False, fun _ _ => False⟩
theorem zm_endI {od : @OD α d} {p : Addr} {x : α} (h : Γ[0]? = some (.own d od (some (.ref p)) x)) : Zm tx Y js tNext Γ (KI od p) (.ok x) := fun nb xk => z_next (k := (KI od p).ks (M.ok x)) ⟨x, rfl, h⟩
theorem zm_fld1 {C0 : Addr} {f : Str} {i : Nat} {pin : Option V} {x : Ob0} {m1 : M β} {m2 : β → M τ} (hi : Γ[i]? = some (.own (dOb0 C0) (oOb0 C0) pin x)) (hj : i ∈ js) (c : Cls Y.K C0) (n : NoAttr Y.K C0 f) (h : We tx Y te Γ d2 m1) (h2 : ∀ y, Zm tx Y js rest (Γ.set i (.own (dOb1 C0 f) (oOb1 C0 f) pin ⟨y⟩)) K (m2 y)) :
    Zm tx Y js (tSeq (sFld Y.K (tVar i) te f) rest) Γ K (m1 >>= m2) := fun nb xk => z_seq (z_fld1 hi c n (w_mono (h (M.nb1 nb) xk.l.here) fun y e => (h2 y).go nb xk e (wipeC_set hj)))
theorem zm_fld2 {C0 : Addr} {f f0 : Str} {i : Nat} {pin : Option V} {x : Ob1 α} {m1 : M β} {m2 : β → M τ} (hi : Γ[i]? = some (.own (dOb1 (d1 := d) C0 f0) (oOb1 (d1 := d) C0 f0) pin x)) (hj : i ∈ js) (hne : (f0 == f) = false) (c : Cls Y.K C0) (n : NoAttr Y.K C0 f) (h : We tx Y te Γ d2 m1) (h2 : ∀ y, Zm tx Y js rest (Γ.set i (.own (dOb2 (d1 := d) (d2 := d2) C0 f0 f) (oOb2 (d1 := d) (d2 := d2) C0 f0 f) pin ⟨x.a, y⟩)) K (m2 y)) :
    Zm tx Y js (tSeq (sFld Y.K (tVar i) te f) rest) Γ K (m1 >>= m2) := fun nb xk => z_seq (z_fld2 hi hne c n (w_mono (h (M.nb1 nb) xk.l.here) fun y e => (h2 y).go nb xk e (wipeC_set hj)))
theorem Zm.bodyI {C : GCtx} {N : List Str} {C0 : Addr} {od : @OD α d} {m : M α} {vs : List V} {H : Hp} {Q : VK} {E : XK} (nb : m.nb) (h : FnI C od C0 Γ (fun r => m = .ok r) (fun x => ∃ px, m = .exc px ∧ x = px.x tx) vs H Q E)
    (hz : ∀ p, Zm tx ⟨C, fun _ => E, fun x _ => ∃ px, m = .exc px ∧ x = px.x tx⟩ js ts (.own (dOb0 C0) (oOb0 C0) (some (.ref p)) ⟨()⟩ :: (Γ ++ List.replicate (N.length - (Γ.length + 1)) .no)) (KI od p) m) : ts { nx := fun _ H' => Q .non H', rt := Q } (L2.start N vs) H :=
  h.body fun p => z_mono (hz p nb fun x e Γ' _ => ⟨x, e, rfl⟩) (fun Γ' ⟨t, e, q⟩ => ⟨t, q, e⟩) (fun _ _ ⟨_, _, z⟩ => z.elim) (fun _ ⟨_, _, z⟩ => z) fun _ ⟨_, _, z⟩ => z
end
end G
end

noncomputable section
/-! M4: the program's classes; more rules. -/
namespace G
open PySem PySem.Spec PyProof.Rows L2 PySem.W
/-- the program's classes of objects -/
inductive OC where
  | Web | PairedWeb | Wiring | Sum | Kind | Desk | Likeness | Batch
  deriving DecidableEq
/-- where the classes stand -/
structure CA3 where
  tx : XC → Addr
  ob : OC → Addr
abbrev T4I := T4 Int Int Int Int
abbrev WebM := Ob2 (Tup Int) (Tup (T4 Int Int Int Int))
abbrev PairedWebM := Ob2 Int (Tup (Int × Int))
abbrev LikenessM := Ob2 Int (Tup (Int × Int))
abbrev SumM := Ob1 (Tup (Int × Tup Int))
section
variable (A : CA3)
@[reducible] def dWeb : Dat WebM := dOb2 (d1 := (dTup (d := dInt))) (d2 := (dTup (d := (dT4 (d1 := dInt) (d2 := dInt) (d3 := dInt) (d4 := dInt))))) (A.ob .Web) "sides" "ties"
@[reducible] def oWeb : @OD WebM (dWeb A) := oOb2 (d1 := (dTup (d := dInt))) (d2 := (dTup (d := (dT4 (d1 := dInt) (d2 := dInt) (d3 := dInt) (d4 := dInt))))) (A.ob .Web) "sides" "ties"
theorem isI_Web : IsI (dWeb A) (A.ob .Web) ["sides", "ties"] := isI2
theorem isF_Web_sides : IsF (dWeb A) (A.ob .Web) "sides" (dTup (d := dInt)) Ob2.a := isF2a
theorem isF_Web_ties : IsF (dWeb A) (A.ob .Web) "ties" (dTup (d := (dT4 (d1 := dInt) (d2 := dInt) (d3 := dInt) (d4 := dInt)))) Ob2.b := isF2b (by decide)
@[reducible] def dPairedWeb : Dat PairedWebM := dOb2 (d1 := dInt) (d2 := (dTup (d := (dPair (d1 := dInt) (d2 := dInt))))) (A.ob .PairedWeb) "pairs" "free"
@[reducible] def oPairedWeb : @OD PairedWebM (dPairedWeb A) := oOb2 (d1 := dInt) (d2 := (dTup (d := (dPair (d1 := dInt) (d2 := dInt))))) (A.ob .PairedWeb) "pairs" "free"
@[reducible] def dLikeness : Dat LikenessM := dOb2 (d1 := dInt) (d2 := (dTup (d := (dPair (d1 := dInt) (d2 := dInt))))) (A.ob .Likeness) "size" "_like"
@[reducible] def oLikeness : @OD LikenessM (dLikeness A) := oOb2 (d1 := dInt) (d2 := (dTup (d := (dPair (d1 := dInt) (d2 := dInt))))) (A.ob .Likeness) "size" "_like"
@[reducible] def dSum : Dat SumM := dOb1 (d1 := (dTup (d := (dPair (d1 := dInt) (d2 := (dTup (d := dInt))))))) (A.ob .Sum) "_rows"
@[reducible] def oSum : @OD SumM (dSum A) := oOb1 (d1 := (dTup (d := (dPair (d1 := dInt) (d2 := (dTup (d := dInt))))))) (A.ob .Sum) "_rows"
end
section
variable {tx : XC → Addr} {Y : YC} {Γ : List Cell} {te ta tb tc td tl t1 t2 : TE} {α β γ δ τ : Type} {d : Dat α} {d1 : Dat α} {d2 : Dat β} {d3 : Dat γ} {d4 : Dat δ}
/-! operators with written numbers -/
theorem we_modC {m : M Int} {j : Int} (h : Re tx Y ta Γ dInt m) (h2 : Re tx Y tb Γ dInt (.ok j)) (hj : 0 < j := by decide) : We tx Y (tOp (rI (fun _ j => 0 < j) fun i j => .int (i % j)) ta tb) Γ dInt (m >>= fun x => .ok (x % j)) := we_eq (we_mod h h2) (by cases m <;> first | rfl | exact M.asrt_pos hj)
theorem we_fdivC {m : M Int} {j : Int} (h : Re tx Y ta Γ dInt m) (h2 : Re tx Y tb Γ dInt (.ok j)) (hj : CDiv 0 j := by decide) : We tx Y (tOp (rI CDiv fun i j => .int (i / j)) ta tb) Γ dInt (m >>= fun x => .ok (x / j)) := we_eq (we_fdiv h h2) (by cases m <;> first | rfl | exact M.asrt_pos hj)
theorem we_mulCr {m : M Int} {j : Int} (h : Re tx Y ta Γ dInt m) (h2 : Re tx Y tb Γ dInt (.ok j)) (hj : -(2 ^ 64) < j ∧ j < 2 ^ 64 := by decide) : We tx Y (tOp (rI CMul fun i j => .int (i * j)) ta tb) Γ dInt (m >>= fun x => .ok (x * j)) := we_eq (we_mul h h2) (by cases m <;> first | rfl | exact M.asrt_pos (.inr hj))
theorem we_mulCl {m : M Int} {j : Int} (h : Re tx Y ta Γ dInt (.ok j)) (h2 : Re tx Y tb Γ dInt m) (hj : -(2 ^ 64) < j ∧ j < 2 ^ 64 := by decide) : We tx Y (tOp (rI CMul fun i j => .int (i * j)) ta tb) Γ dInt (m >>= fun x => .ok (j * x)) := we_eq (we_mul h h2) (by cases m <;> first | rfl | exact M.asrt_pos (.inl hj))
/-! lists joined -/
def M.cat {α : Type} (xs ys : List α) : M (List α) := M.asrt (xs.length + ys.length ≤ PySem.sizeLine) (.ok (xs ++ ys))
/-! sets, dicts -/
theorem oe_set0 : Oe tx Y (tCB (rSet0 Y.w) tNil) Γ oSet (.ok ⟨[]⟩) := fun _ _ => o_set0 rfl
theorem oe_dict0 : Oe tx Y tDNewK Γ (oDI (d := d)) (.ok ⟨[]⟩) := fun _ _ => o_dict0 rfl
theorem we_inDI {m : M Int} {n : M (DI α)} (h : Re tx Y ta Γ dInt m) (h2 : Re tx Y tb Γ (dDI (d := d)) n) : We tx Y (tDIn ta tb) Γ dBool (m >>= fun x => n >>= fun s => .ok (s.kv.lookup x).isSome) := we_p2 (f := fun (x : Int) (s : DI α) => (s.kv.lookup x).isSome) (fun k h => w_inDI h) h h2
theorem we_notinDI {m : M Int} {n : M (DI α)} (h : Re tx Y ta Γ dInt m) (h2 : Re tx Y tb Γ (dDI (d := d)) n) : We tx Y (tDNotIn ta tb) Γ dBool (m >>= fun x => n >>= fun s => .ok (!(s.kv.lookup x).isSome)) := we_p2 (f := fun (x : Int) (s : DI α) => !(s.kv.lookup x).isSome) (fun k h => w_notinDI h) h h2
theorem we_dget {m : M (DI α)} {n : M Int} (h : We tx Y ta Γ (dDI (d := d)) m) (h2 : Re tx Y tb Γ dInt n) : We tx Y (tDGet ta tb) Γ d (m >>= fun s => n >>= fun x => M.ofO (s.kv.lookup x)) := we_l2 (f := fun (s : DI α) (x : Int) => s.kv.lookup x) (fun k h => w_dget h) h h2
theorem re_dget {m : M (DI α)} {n : M Int} (h : Re tx Y ta Γ (dDI (d := d)) m) (h2 : Re tx Y tb Γ dInt n) : Re tx Y (tDGet ta tb) Γ d (m >>= fun s => n >>= fun x => M.ofO (s.kv.lookup x)) := re_l2 (f := fun (s : DI α) (x : Int) => s.kv.lookup x) (fun k h => r_dget h) h h2
end
end G
namespace L2
open PySem PySem.Spec PyProof.Rows
section
variable {X : Cx} (K : PySem.W.Frag)
theorem pg_tupK {es : List Expr} {k n : Nat} {t : TGs} {pos : Pos} (hc : X.calm = true) (h : PGs X es t) (hn : (assignEach es X.env).length = n := by rfl) (hst : (assignEach es X.env).findIdx? (·.1) = none := by rfl) (hK : X.K = K := by rfl) : PG X (.Tuple es k pos) (gTup K n t) := hK ▸ pg_tup hc h hn hst
theorem fld_K {e : Expr} {te : TE} {f : Str} {pos : Pos} (he : PE X e te) (hb : attributeBase e f X.env (eval e X.env) = eval e X.env) (hK : X.K = K := by rfl) : PE X (.Attribute e f pos) (tFld K te f) := hK ▸ pe_fld he hb
theorem con_K {e : Expr} {te : TE} {f : Str} {pos : Pos} (he : PE X e te) (hb : attributeBase e f X.env (eval e X.env) = eval e X.env) (hK : X.K = K := by rfl) : PE X (.Attribute e f pos) (tCon K te f) := hK ▸ pe_con he hb
end
section
variable {X : Cx} {x n : Str} {c : Value} {i : Nat} {body suite : List Stmt} {b₀ : Stmt} {np pos pos' : Pos} {tb : WX → TS} {ts : Addr → Value → Option Addr → TS} {Wout : WX}
end
end L2
namespace G
open PySem PySem.Spec PyProof.Rows L2 PySem.W
end G
end

noncomputable section
/-! M5: more rules: lists joined and repeated, list(range), pop(i), insert, sum, None. -/
namespace L2
open PySem PySem.Spec PyProof.Rows
section
variable {X : Cx}
/-- xs + ys, lists that are read -/
def rCatR : R2 := fun x y H Q => ∃ l b xs zs, x = .ref l ∧ y = .ref b ∧ Rd H l (.lst xs) ∧ Rd H b (.lst zs) ∧ xs.length + zs.length ≤ sizeLine ∧ ∀ p, H p = none → Q (.ref p) (upd H p (.lst (xs ++ zs)))
theorem op_catR : OpR X (binaryOp .Add) rCatR := by
  intro pins s σ H x y v u Q I rx ry h
  obtain ⟨l, b, xs, zs, rfl, rfl, hH, hB, hz, q⟩ := h
  cases rx
  cases ry
  obtain ⟨z, its, n, r, e⟩ := hH.ok I.hok
  obtain ⟨z2, its2, n2, r2, e2⟩ := hB.ok I.hok
  have hl := r.length
  have hl2 := r2.length
  refine PySem.P.add_list e e2 ?_ (by rw [List.size_toArray, List.size_toArray]; omega)
  have ea : its.toArray ++ its2.toArray = (its ++ its2).toArray := by simp
  rw [ea]
  exact ⟨.ref _, _, I.lnew (t' := s.toks) (r.append r2) (by rw [List.length_append]; omega), rfl, q _ I.fresh⟩
end
end L2
namespace G
open PySem PySem.Spec PyProof.Rows L2 PySem.W
theorem Reps.rep {α : Type} {d : Dat α} {C : GCtx} {F : Hp} {vs : List V} {xs : List α} (r : Reps d C F vs xs) : ∀ n, Reps d C F (List.replicate n vs).flatten (List.replicate n xs).flatten
  | 0 => trivial
  | n + 1 => by
    simp only [List.replicate_succ, List.flatten_cons]
    exact r.append (Reps.rep r n)
section
variable {tx : XC → Addr} {Y : YC} {Γ : List Cell} {te ta tb tc td tl t1 t2 : TE} {α β γ δ τ : Type} {d : Dat α} {d1 : Dat α} {d2 : Dat β} {d3 : Dat γ} {ts rest : TS} {js : List Nat} {K : Kt τ}
theorem w_ixQ {k : α → Prop} (h : W Y ta Γ (dSq (d := d)) fun xs => R Y tb Γ dInt fun i => ∃ x, atI xs.l i = some x ∧ k x) : W Y (tOp (rIx Y.K) ta tb) Γ d k := fun e F σ H s Q q => h e F σ H s _ fun v1 F1 H1 xs h1 g1 ⟨a, vs, e1, hs, r⟩ => h1 e F1 σ H1 (s.grow g1) _ fun v2 F2 H2 i ⟨x, hx, kx⟩ g2 r2 => by
  subst e1
  cases (show v2 = .int i from r2)
  obtain ⟨v, hv, rv⟩ := atI_rep r hx
  rcases hs with hs | hs
  · exact .inl ⟨a, vs, i, v, rfl, rfl, (g1.fh.trans g2.hh0).seq hs, hv, q _ F2 H2 x kx (g1.trans0 g2) (d.mono g2.ff rv)⟩
  · exact .inr (.inl ⟨a, vs, i, v, rfl, rfl, (hs.mono (g2.ff.trans g2.fh)).sq, hv, q _ F2 H2 x kx (g1.trans0 g2) (d.mono g2.ff rv)⟩)
theorem we_ixQ {m : M (Sq α)} {n : M Int} (h : We tx Y ta Γ (dSq (d := d)) m) (h2 : Re tx Y tb Γ dInt n) : We tx Y (tOp (rIx Y.K) ta tb) Γ d (m >>= fun xs => n >>= fun i => M.ix xs.l i) := we_l2 (f := fun (xs : Sq α) i => atI xs.l i) (fun k h => w_ixQ h) h h2
/-! lists joined, repeated -/
theorem o_cat {k : List α → Prop} (h : W Y ta Γ (dList (d := d)) fun xs => W Y tb Γ (dList (d := d)) fun ys => xs.length + ys.length ≤ PySem.sizeLine ∧ k (xs ++ ys)) : O Y (tOp rCatR ta tb) Γ (oList (d := d)) k := fun e F σ H s Q q => h e F σ H s _ fun v1 F1 H1 xs h1 g1 ⟨a, vs, e1, hs, r⟩ => h1 e F1 σ H1 (s.grow g1) _ fun v2 F2 H2 ys ⟨hl, ky⟩ g2 ⟨b, ws, e2, hs2, r2⟩ => by
  subst e1 e2
  refine ⟨a, b, vs, ws, rfl, rfl, Same.rd (g2.ff.trans g2.fh) hs, Same.rd g2.fh hs2, by rw [r.len, r2.len]; exact hl, fun p hp => ?_⟩
  obtain ⟨h3, h4⟩ := o_new (L := []) g2.base hp ((r.mono g2.ff).append r2)
  exact q _ F2 _ _ _ ky (by simpa using (g1.trans0 g2).trans h3) h4
theorem oe_cat {m n : M (List α)} (h : We tx Y ta Γ (dList (d := d)) m) (h2 : We tx Y tb Γ (dList (d := d)) n) : Oe tx Y (tOp rCatR ta tb) Γ (oList (d := d)) (m >>= fun xs => n >>= fun ys => M.cat xs ys) := fun nb xk =>
  o_cat (h.k nb xk fun xs e nb xk => h2.k nb xk fun ys e2 nb2 _ => ⟨M.asrt_nb nb2, by rw [e]; show (n >>= _) = _; rw [e2]; exact M.asrt_pos (M.asrt_nb nb2)⟩)
def M.rep {α : Type} (xs : List α) (k : Int) : M (List α) := M.asrt (-(2 ^ 63) ≤ k ∧ k < 2 ^ 63 ∧ xs.length * k.toNat ≤ PySem.sizeLine) (.ok (List.replicate k.toNat xs).flatten)
/-! list(range(..)) -/
def M.rangeL (a b : Int) : M (List Int) := M.asrt (-(2 ^ 62) ≤ a ∧ a < 2 ^ 62 ∧ -(2 ^ 62) ≤ b ∧ b < 2 ^ 62 ∧ (b - a).toNat ≤ 2 ^ 24) (.ok (rngL a (b - a).toNat))
theorem rgV_L (a b : Int) : rgV a b = (rngL a (b - a).toNat).map V.int := by
  unfold rgV rngL
  rw [List.map_map]; rfl
theorem o_listRg1 {k : List Int → Prop} (h : R Y ta Γ dInt fun n => (-(2 ^ 62) ≤ (0 : Int) ∧ (0 : Int) < 2 ^ 62 ∧ -(2 ^ 62) ≤ n ∧ n < 2 ^ 62 ∧ (n - 0).toNat ≤ 2 ^ 24) ∧ k (rngL 0 (n - 0).toNat)) : O Y (tLstRg (tRg1 ta)) Γ (oList (d := dInt)) k := fun e F σ H s Q q => h e F σ H s _ fun v F1 H1 n ⟨hb, kn⟩ g r => by
  cases (show v = .int n from r)
  refine ⟨n, rfl, hb, fun p hp => ?_⟩
  rw [rgV_L]
  obtain ⟨h3, h4⟩ := o_new (d := dInt) (L := []) g.base hp (Reps.ofInts (rngL 0 (n - 0).toNat))
  exact q _ F1 _ _ _ kn (by simpa using g.trans h3) h4
theorem oe_listRg1 {m : M Int} (h : Re tx Y ta Γ dInt m) : Oe tx Y (tLstRg (tRg1 ta)) Γ (oList (d := dInt)) (m >>= fun n => M.rangeL 0 n) := fun nb xk =>
  o_listRg1 (h.k nb xk fun n e nb2 _ => ⟨M.asrt_nb nb2, by rw [e]; exact M.asrt_pos (M.asrt_nb nb2)⟩)
/-! sum, all, min, max -/
theorem w_all {k : Bool → Prop} (h : R Y ta Γ (dList (d := dBool)) fun xs => k (xs.all id)) : W Y (tCB (rAll Y.K) (tCons ta tNil)) Γ dBool k := fun e F σ H s Q q => h e F σ H s _ fun v F' H' xs kx g ⟨a, vs, e1, hs, r⟩ => by
  subst e1
  cases r.bools
  exact ⟨a, xs, rfl, .inl hs, q _ F' H' _ kx g rfl⟩
theorem we_all {m : M (List Bool)} (h : Re tx Y ta Γ (dList (d := dBool)) m) : We tx Y (tCB (rAll Y.K) (tCons ta tNil)) Γ dBool (m >>= fun xs => .ok (xs.all id)) := we_p1 (f := fun xs : List Bool => xs.all id) (fun k h => w_all h) h
/-! None -/
class NN (α : Type) [d : Dat α] : Prop where
  nn : ∀ {C : GCtx} {F : Hp} {v : V} {x : α}, d.rep C F v x → v ≠ .non
instance : NN Int := ⟨fun {C F v x} h z => by subst z; cases (show V.non = .int x from h)⟩
instance : NN Bool := ⟨fun {C F v x} h z => by subst z; cases (show V.non = .bl x from h)⟩
instance : NN Str := ⟨fun {C F v x} h z => by subst z; cases (show V.non = .str x from h)⟩
instance {α : Type} [d : Dat α] : NN (List α) := ⟨fun ⟨a, vs, e, _⟩ z => by subst z; cases e⟩
instance {α : Type} [d : Dat α] : NN (Tup α) := ⟨fun ⟨a, vs, e, _⟩ z => by subst z; cases e⟩
instance {α β : Type} [d : Dat α] [d2 : Dat β] : NN (α × β) := ⟨fun ⟨a, v1, v2, e, _⟩ z => by subst z; cases e⟩
instance {α β γ : Type} [d : Dat α] [d2 : Dat β] [d3 : Dat γ] : NN (T3 α β γ) := ⟨fun ⟨a, v1, v2, v3, e, _⟩ z => by subst z; cases e⟩
instance {α β γ δ : Type} [d : Dat α] [d2 : Dat β] [d3 : Dat γ] [d4 : Dat δ] : NN (T4 α β γ δ) := ⟨fun ⟨a, v1, v2, v3, v4, e, _⟩ z => by subst z; cases e⟩
def Opt.isNone {α : Type} : Opt α → Bool
  | .none => true
  | .some _ => false
theorem w_isN [nn : @NN α d] {k : Bool → Prop} (h : R Y ta Γ (dOpt (d := d)) fun x => k x.isNone) : W Y (tOp (fun x y H Q => y = .non ∧ Q (.bl (decide (x = .non))) H) ta (tC .non)) Γ dBool k := fun e F σ H s Q q => h e F σ H s _ fun v F' H' x kx g r => ⟨rfl, q _ F' H' _ kx g (by
  cases x with
  | none => cases (show v = .non from r); rfl
  | some y => show V.bl _ = V.bl _; rw [decide_eq_false (nn.nn (show d.rep _ _ v y from r))]; rfl)⟩
theorem we_isN [nn : @NN α d] {m : M (Opt α)} (h : Re tx Y ta Γ (dOpt (d := d)) m) : We tx Y (tOp (fun x y H Q => y = .non ∧ Q (.bl (decide (x = .non))) H) ta (tC .non)) Γ dBool (m >>= fun x => .ok x.isNone) := we_p1 (f := Opt.isNone) (fun k h => w_isN h) h
/-! pop(i), insert -/
abbrev rInsert : V → List V → Hp → VK → Prop := fun x vs H Q => ∃ (l : Addr) (xs : List V) (i : Int) (y : V), x = .ref l ∧ vs = [.int i, y] ∧ H l = some (.lst xs) ∧ xs.length < PySem.sizeLine ∧ 0 ≤ i ∧ i < 2 ^ 63 ∧
    Q .non (upd H l (.lst (xs.take i.toNat ++ [y] ++ xs.drop i.toNat)))
def M.insert {α : Type} (xs : List α) (mi : M Int) (m : M α) : M (List α) := mi >>= fun n => m >>= fun y => M.asrt (xs.length < PySem.sizeLine ∧ 0 ≤ n ∧ n < 2 ^ 63) (.ok (xs.take n.toNat ++ [y] ++ xs.drop n.toNat))
theorem z_insert {pin : Option V} {i : Nat} {xs : List α} {k : Ks} (hi : Γ[i]? = some (.own (dList (d := d)) (oList (d := d)) pin xs))
    (h : R Y ta Γ dInt fun n => W Y te Γ d fun y => (xs.length < PySem.sizeLine ∧ 0 ≤ n ∧ n < 2 ^ 63) ∧ k.nx (Γ.set i (.own (dList (d := d)) (oList (d := d)) pin (xs.take n.toNat ++ [y] ++ xs.drop n.toNat)))) :
    Z Y (tDrop (tBM Y.K "list" rInsert (tVar i) (tCons ta (tCons te tNil)))) Γ k := fun e F σ H D hM s c => by
  obtain ⟨v0, _, _, e1, ⟨a0, vs0, rfl, rfl, _⟩, kw0, _⟩ := s.mut hi
  have ha0 : H a0 = some (.lst vs0) := (kw0.ow (a0, .lst vs0) (by simp)).2.1
  refine ⟨.ref a0, e1, .inl ⟨rfl, vs0, .inl (.inl ha0)⟩, h e F σ H s _ fun v F1 H1 n h1 g r => h1 e F1 σ H1 (s.grow g) _ fun w F2 H2 y ⟨⟨hl, h0, h63⟩, kn⟩ g2 rw' => ?_⟩
  cases (show v = .int n from r)
  obtain ⟨w1, L1, rest1, e3, ⟨b1, us1, rfl, rfl, r1⟩, kv1, f1⟩ := ((s.grow g).grow g2).mut hi
  rw [e1] at e3
  cases (Option.some.inj e3)
  have hb1 : H2 a0 = some (.lst us1) := (kv1.ow (a0, .lst us1) (by simp)).2.1
  refine ⟨a0, us1, n, w, rfl, rfl, hb1, by rw [r1.len]; exact hl, h0, h63, ?_⟩
  exact c.nx F2 σ _ _ kn (f1 F2 _ [(a0, .lst (us1.take n.toNat ++ [w] ++ us1.drop n.toNat))] _ (Same.refl F2) (kv1.put (fun _ z => by cases z)) ⟨a0, _, rfl, rfl, ((r1.take _).append (Reps.one rw')).append (r1.drop _)⟩)
theorem zm_insert {pin : Option V} {i : Nat} {xs : List α} {mi : M Int} {m1 : M α} {m2 : List α → M τ} (hi : Γ[i]? = some (.own (dList (d := d)) (oList (d := d)) pin xs)) (hj : i ∈ js) (hx : Re tx Y ta Γ dInt mi) (h : We tx Y te Γ d m1) (h2 : ∀ ys, Zm tx Y js rest (Γ.set i (.own (dList (d := d)) (oList (d := d)) pin ys)) K (m2 ys)) :
    Zm tx Y js (tSeq (tDrop (tBM Y.K "list" rInsert (tVar i) (tCons ta (tCons te tNil)))) rest) Γ K (M.insert xs mi m1 >>= m2) := fun nb xk =>
  z_seq (z_insert hi (hx.k (M.nb1 nb) xk.l.here fun n e nb3 xk3 => h.k nb3 xk3 fun y e2 nb4 _ => by
    have hb := M.asrt_nb nb4
    refine ⟨hb, (h2 _).go nb xk ?_ (wipeC_set hj)⟩
    unfold M.insert
    rw [e]; show (m1 >>= _) = _; rw [e2]; exact M.asrt_pos hb))
/-! a, b = x, y -/
end
end G
end

noncomputable section
/-! M6: instances whose later attributes are dicts (filled within __init__), tuples of the top. -/
namespace G
open PySem PySem.Spec PyProof.Rows L2 PySem.W
structure Ob3 (α β γ : Type) where
  a : α
  b : β
  c : γ
  deriving DecidableEq
structure Ob4 (α β γ δ : Type) where
  a : α
  b : β
  c : γ
  d : δ
  deriving DecidableEq
theorem Wk.perm {e : En} {F : Hp} {L L' : LO} {H : Hp} (a : Wk e F L H) (p : L.Perm L') : Wk e F L' H :=
  a.sub (fun x hx => p.mem_iff.mpr hx) ((List.Perm.nodup_iff (p.map _)).mp a.nd)
section
variable {α β γ δ : Type} [d1 : Dat α] [d2 : Dat β] [d3 : Dat γ] [d4 : Dat δ] (C0 : Addr) (f1 f2 f3 f4 : Str)
@[reducible] def dOb3 : Dat (Ob3 α β γ) := ⟨fun C F v x => ∃ p dx v1 v2 v3, v = .ref p ∧ F p = some (.ins C0 dx [(f1, v1), (f2, v2), (f3, v3)]) ∧ d1.rep C F v1 x.a ∧ d2.rep C F v2 x.b ∧ d3.rep C F v3 x.c,
  fun s ⟨p, dx, v1, v2, v3, e, h, r1, r2, r3⟩ => ⟨p, dx, v1, v2, v3, e, s _ _ h, d1.mono s r1, d2.mono s r2, d3.mono s r3⟩⟩
@[reducible] def dOb4 : Dat (Ob4 α β γ δ) := ⟨fun C F v x => ∃ p dx v1 v2 v3 v4, v = .ref p ∧ F p = some (.ins C0 dx [(f1, v1), (f2, v2), (f3, v3), (f4, v4)]) ∧ d1.rep C F v1 x.a ∧ d2.rep C F v2 x.b ∧ d3.rep C F v3 x.c ∧ d4.rep C F v4 x.d,
  fun s ⟨p, dx, v1, v2, v3, v4, e, h, r1, r2, r3, r4⟩ => ⟨p, dx, v1, v2, v3, v4, e, s _ _ h, d1.mono s r1, d2.mono s r2, d3.mono s r3, d4.mono s r4⟩⟩
@[reducible] def oOb3 (od3 : @OD γ d3) : @OD (Ob3 α β γ) (dOb3 C0 f1 f2 f3) := @OD.mk (Ob3 α β γ) (dOb3 C0 f1 f2 f3)
  (fun C F v x L => ∃ p dx v1 v2 v3 L3, v = .ref p ∧ L = (p, .ins C0 dx [(f1, v1), (f2, v2), (f3, v3)]) :: L3 ∧ d1.rep C F v1 x.a ∧ d2.rep C F v2 x.b ∧ od3.orep C F v3 x.c L3)
  (fun s ⟨p, dx, v1, v2, v3, L3, e, h, r1, r2, r3⟩ => ⟨p, dx, v1, v2, v3, L3, e, h, d1.mono s r1, d2.mono s r2, od3.omono s r3⟩)
  (fun ⟨p, dx, v1, v2, v3, L3, e, h, r1, r2, r3⟩ s k => ⟨p, dx, v1, v2, v3, e, k (p, .ins C0 dx [(f1, v1), (f2, v2), (f3, v3)]) (by rw [h]; exact List.mem_cons_self), d1.mono s r1, d2.mono s r2, od3.view r3 s fun q hq => k q (by rw [h]; exact List.mem_cons_of_mem _ hq)⟩)
@[reducible] def oOb4 (od3 : @OD γ d3) (od4 : @OD δ d4) : @OD (Ob4 α β γ δ) (dOb4 C0 f1 f2 f3 f4) := @OD.mk (Ob4 α β γ δ) (dOb4 C0 f1 f2 f3 f4)
  (fun C F v x L => ∃ p dx v1 v2 v3 v4 L3 L4, v = .ref p ∧ L = (p, .ins C0 dx [(f1, v1), (f2, v2), (f3, v3), (f4, v4)]) :: (L3 ++ L4) ∧ d1.rep C F v1 x.a ∧ d2.rep C F v2 x.b ∧ od3.orep C F v3 x.c L3 ∧ od4.orep C F v4 x.d L4)
  (fun s ⟨p, dx, v1, v2, v3, v4, L3, L4, e, h, r1, r2, r3, r4⟩ => ⟨p, dx, v1, v2, v3, v4, L3, L4, e, h, d1.mono s r1, d2.mono s r2, od3.omono s r3, od4.omono s r4⟩)
  (fun ⟨p, dx, v1, v2, v3, v4, L3, L4, e, h, r1, r2, r3, r4⟩ s k => ⟨p, dx, v1, v2, v3, v4, e, k (p, .ins C0 dx [(f1, v1), (f2, v2), (f3, v3), (f4, v4)]) (by rw [h]; exact List.mem_cons_self), d1.mono s r1, d2.mono s r2,
    od3.view r3 s fun q hq => k q (by rw [h]; exact List.mem_cons_of_mem _ (List.mem_append_left _ hq)), od4.view r4 s fun q hq => k q (by rw [h]; exact List.mem_cons_of_mem _ (List.mem_append_right _ hq))⟩)
end
section
variable {α β γ δ : Type} [d1 : Dat α] [d2 : Dat β] [d3 : Dat γ] [d4 : Dat δ] {C0 : Addr} {f1 f2 f3 f4 : Str}
end
theorem set_same {σ : L2.St} {i : Nat} {v : V} (e1 : σ[i]? = some (some v)) : σ.set i (some v) = σ := by
  apply List.ext_getElem?
  intro j
  by_cases hj : i = j
  · subst hj
    obtain ⟨hlt, hv⟩ := List.getElem?_eq_some_iff.mp e1
    rw [List.getElem?_set_self hlt, e1]
  · rw [List.getElem?_set_ne hj]
section
variable {Y : YC} {Γ : List Cell} {k : Ks} {te tk tv : TE} {α β γ δ ε : Type} {d1 : Dat α} {d2 : Dat β} {d3 : Dat γ} {d4 : Dat δ} {dv : Dat ε} {C0 : Addr} {f f1 f2 f3 : Str}
end
section
variable {tx : XC → Addr} {Y : YC} {Γ : List Cell} {te tk tv : TE} {α β γ δ ε τ : Type} {d1 : Dat α} {d2 : Dat β} {d3 : Dat γ} {d4 : Dat δ} {dv : Dat ε} {rest : TS} {js : List Nat} {K : Kt τ} {C0 : Addr} {f f1 f2 f3 : Str}
end
/-! the class Wiring -/
abbrev WiringM := Ob4 (Tup (Int × Int)) (Tup (T3 Str Int Int)) (DI Int) (DI Int)
section
variable (A : CA3)
@[reducible] def dLinks : Dat (Tup (Int × Int)) := dTup (d := dPair (d1 := dInt) (d2 := dInt))
@[reducible] def dNodes : Dat (Tup (T3 Str Int Int)) := dTup (d := dT3 (d1 := dStr) (d2 := dInt) (d3 := dInt))
@[reducible] def dWiring : Dat WiringM := dOb4 (d1 := dTup (d := dPair (d1 := dInt) (d2 := dInt))) (d2 := dTup (d := dT3 (d1 := dStr) (d2 := dInt) (d3 := dInt))) (d3 := dDI (d := dInt)) (d4 := dDI (d := dInt)) (A.ob .Wiring) "links" "nodes" "_parents" "_owners"
@[reducible] def oWiring : @OD WiringM (dWiring A) := oOb4 (d1 := dTup (d := dPair (d1 := dInt) (d2 := dInt))) (d2 := dTup (d := dT3 (d1 := dStr) (d2 := dInt) (d3 := dInt))) (d3 := dDI (d := dInt)) (d4 := dDI (d := dInt)) (A.ob .Wiring) "links" "nodes" "_parents" "_owners" (oDI (d := dInt)) (oDI (d := dInt))
end
/-! tuples of the top -/
section
variable {tx : XC → Addr} {Y : YC} {Γ : List Cell} {te ta tb : TE} {α β : Type} {d : Dat α}
end
end G
end

noncomputable section
/-! M7: properties, pairs joined. -/
namespace L2
open PySem PySem.Spec PyProof.Rows
end L2
namespace G
open PySem PySem.Spec PyProof.Rows L2 PySem.W
section
variable {tx : XC → Addr} {Y : YC} {Γ : List Cell} {ta tb : TE} {α β γ δ : Type} {d : Dat α} {d1 : Dat α} {d2 : Dat β} {d3 : Dat γ} {d4 : Dat δ} {sp : Sp} {C0 : Addr} {ns : List Str}
end
end G
end

noncomputable section
/-! M8: setdefault, d[k].append(y), dict comprehensions. -/
namespace G
open PySem PySem.Spec PyProof.Rows L2 PySem.W
section
variable {Y : YC} {Γ : List Cell} {k : Ks} {ta tk tv te : TE} {α β : Type} {d : Dat α}
end
section
variable {tx : XC → Addr} {Y : YC} {Γ : List Cell} {ta tk tv te tl : TE} {tt : TT} {g : TG} {α β τ : Type} {d : Dat α} {d2 : Dat β} {rest : TS} {js vs : List Nat} {K : Kt τ}
/-- d[k].append(y) -/
def M.appDI {α : Type} (x : DI (List α)) (mk : M Int) (mv : M α) : M (DI (List α)) := mk >>= fun n => M.ofO (x.kv.lookup n) >>= fun xs => mv >>= fun y => M.asrt (xs.length < PySem.sizeLine) (.ok ⟨setI x.kv n (xs ++ [y])⟩)
theorem zm_appDI {pin : Option V} {i : Nat} {x : DI (List α)} {mk : M Int} {mv : M α} {m2 : DI (List α) → M τ} (hi : Γ[i]? = some (.own (dDI (d := dList (d := d))) (oDeepDI (oList (d := d))) pin x)) (hj : i ∈ js) (hk : Re tx Y ta Γ dInt mk) (hv : We tx Y te Γ d mv)
    (h2 : ∀ y, Zm tx Y js rest (Γ.set i (.own (dDI (d := dList (d := d))) (oDeepDI (oList (d := d))) pin y)) K (m2 y)) : Zm tx Y js (tSeq (tDrop (tBM Y.K "list" rAppend (tDGet (tVar i) ta) (tCons te tNil))) rest) Γ K (M.appDI x mk mv >>= m2) := fun nb xk =>
  z_seq (z_appendDI hi (hk.k (M.nb1 nb) xk.l.here fun n e nb3 xk3 => by
    cases hx : x.kv.lookup n with
    | none => rw [hx] at nb3; exact absurd rfl nb3
    | some xs =>
      rw [hx] at nb3 xk3
      exact ⟨xs, rfl, hv.k nb3 xk3 fun y e2 nb4 _ => ⟨M.asrt_nb nb4, (h2 _).go nb xk (by unfold M.appDI; rw [e]; show (M.ofO (x.kv.lookup n) >>= _) = _; rw [hx]; show (mv >>= _) = _; rw [e2]; exact M.asrt_pos (M.asrt_nb nb4)) (wipeC_set hj)⟩⟩))
/-- {key: value for x in xs if test} over a sequence; the keys new each time -/
def M.dcomp {α β : Type} (p : α → M Bool) (fk : α → M Int) (fv : α → M β) (xs : List α) : M (DI β) :=
  M.fold (fun (s : DI β) x => M.calm (p x) >>= fun b => if b then M.calm (fk x) >>= fun n => M.calm (fv x) >>= fun y => M.asrt (s.kv.lookup n = none ∧ s.kv.length < PySem.sizeLine) (.ok ⟨s.kv ++ [(n, y)]⟩) else .ok s) ⟨[]⟩ xs
theorem oe_dc {od : @OD β d2} {m0 : M (Sq α)} {p : α → M Bool} {fk : α → M Int} {fv : α → M β} (hT : Tg g vs ∧ MoG g) (h : We tx Y tl Γ (dSq (d := d)) m0)
    (hb : ∀ x, A Y g (wipeC Γ vs) d x fun Γ2 => Te tx (calm Y.g) tt Γ2 (p x) ∧ We tx (calm Y.g) tk Γ2 dInt (fk x) ∧ Oe tx (calm Y.g) tv Γ2 od (fv x)) :
    Oe tx Y (tDc (iSeq Y.K tl) g tt tk tv vs) Γ (oDeepDI od) (m0 >>= fun xs => M.dcomp p fk fv xs.l) := fun nb xk => o_dcQ hT (h.k nb xk fun q e nb2 xk2 => by
  obtain ⟨xs⟩ := q
  have nb2 : (M.dcomp p fk fv xs).nb := nb2
  let f : DI β → α → M (DI β) := fun s x => M.calm (p x) >>= fun b => if b then M.calm (fk x) >>= fun n => M.calm (fv x) >>= fun y => M.asrt (s.kv.lookup n = none ∧ s.kv.length < PySem.sizeLine) (.ok ⟨s.kv ++ [(n, y)]⟩) else .ok s
  refine ⟨fun i kv => M.fold f ⟨[]⟩ (xs.take i) = .ok ⟨kv⟩, rfl, fun i x kv hx hi => ?_, fun kv hi => ?_⟩
  · have hx' : xs[i]? = some x := hx
    have htk : xs.take (i + 1) = xs.take i ++ [x] := by rw [List.take_add_one, hx']; rfl
    have e1 : M.fold f ⟨[]⟩ (xs.take (i + 1)) = f ⟨kv⟩ x := by rw [htk, M.fold_snoc, hi]; rfl
    have nb3 : (f ⟨kv⟩ x).nb := fun z => nb2 (by
      show M.fold f ⟨[]⟩ xs = .bad
      have : xs = xs.take (i + 1) ++ xs.drop (i + 1) := (List.take_append_drop _ _).symm
      rw [this, M.fold_app, e1, z]; rfl)
    intro e0 F σ0 H v s r Q q
    refine hb x e0 F σ0 H v s r Q fun σ' Γ' ⟨ht, hk, hv⟩ s' => q σ' Γ' ?_ s'
    obtain ⟨b, hb1⟩ := M.calm_nb (M.nb1 nb3)
    have e2 : f ⟨kv⟩ x = (if b then M.calm (fk x) >>= fun n => M.calm (fv x) >>= fun y => M.asrt (kv.lookup n = none ∧ kv.length < PySem.sizeLine) (.ok ⟨kv ++ [(n, y)]⟩) else .ok ⟨kv⟩) := by
      show (M.calm (p x) >>= _) = _
      rw [hb1]; rfl
    refine t_mono (t_calm (ht (by rw [hb1]; exact fun z => nomatch z) (by rw [hb1]; exact XkM.ok))) fun b' eb => ⟨fun z => ?_, fun z => ?_⟩
    · rw [hb1] at eb
      cases eb
      subst z
      rw [e2, if_pos rfl] at nb3
      rw [e2, if_pos rfl] at e1
      obtain ⟨n, hn⟩ := M.calm_nb (M.nb1 nb3)
      rw [hn] at nb3 e1
      have nb4 : (M.calm (fv x) >>= fun y => M.asrt (kv.lookup n = none ∧ kv.length < PySem.sizeLine) (.ok (⟨kv ++ [(n, y)]⟩ : DI β))).nb := nb3
      have e4 : M.fold f ⟨[]⟩ (xs.take (i + 1)) = (M.calm (fv x) >>= fun y => M.asrt (kv.lookup n = none ∧ kv.length < PySem.sizeLine) (.ok (⟨kv ++ [(n, y)]⟩ : DI β))) := e1
      obtain ⟨y, hy⟩ := M.calm_nb (M.nb1 nb4)
      rw [hy] at nb4 e4
      have hp : kv.lookup n = none ∧ kv.length < PySem.sizeLine := M.asrt_nb nb4
      refine w_mono (w_calm (hk (by rw [hn]; exact fun z => nomatch z) (by rw [hn]; exact XkM.ok))) fun n' en => ?_
      rw [hn] at en
      cases en
      refine o_mono (o_calm (hv (by rw [hy]; exact fun z => nomatch z) (by rw [hy]; exact XkM.ok))) fun y' ey => ?_
      rw [hy] at ey
      cases ey
      exact ⟨hp.1, hp.2, e4.trans (M.asrt_pos hp)⟩
    · rw [hb1] at eb
      cases eb
      subst z
      rw [e2, if_neg (by simp)] at e1
      exact e1
  · have hi' : M.fold f ⟨[]⟩ (xs.take xs.length) = .ok ⟨kv⟩ := hi
    rw [List.take_length] at hi'
    rw [e]
    exact hi')
end
end G
end

noncomputable section
/-! M9: plain data of any shape. -/
namespace G
open PySem PySem.Spec PyProof.Rows L2 PySem.W
mutual
def DU (C : GCtx) (F : Hp) : PyData → V → Prop
  | .none, v => v = .non
  | .bool b, v => v = .bl b
  | .int i, v => v = .int i
  | .str s, v => v = .str s
  | .list ds, v => ∃ a vs, v = .ref a ∧ Rd F a (.lst vs) ∧ DUs C F ds vs
  | .tuple ds, v => ∃ a vs, v = .ref a ∧ TpA C.K F a vs ∧ DUs C F ds vs
  | .dict _, _ => False
def DUs (C : GCtx) (F : Hp) : List PyData → List V → Prop
  | [], [] => True
  | d :: ds, v :: vs => DU C F d v ∧ DUs C F ds vs
  | [], _ :: _ => False
  | _ :: _, [] => False
end
mutual
theorem DU.mono {C : GCtx} {F F' : Hp} (s : Same F F') : ∀ (x : PyData) (v : V), DU C F x v → DU C F' x v
  | .none, _, h => h
  | .bool _, _, h => h
  | .int _, _, h => h
  | .str _, _, h => h
  | .list ds, _, ⟨a, vs, e, h, r⟩ => ⟨a, vs, e, h.imp (s a _) fun ⟨o, e⟩ => ⟨o, s a _ e⟩, DUs.mono s ds vs r⟩
  | .tuple ds, _, ⟨a, vs, e, h, r⟩ => ⟨a, vs, e, h.mono s, DUs.mono s ds vs r⟩
  | .dict _, _, h => h.elim
theorem DUs.mono {C : GCtx} {F F' : Hp} (s : Same F F') : ∀ (xs : List PyData) (vs : List V), DUs C F xs vs → DUs C F' xs vs
  | [], [], h => h
  | d :: ds, v :: vs, h => ⟨DU.mono s d v h.1, DUs.mono s ds vs h.2⟩
  | [], _ :: _, h => h.elim
  | _ :: _, [], h => h.elim
end
mutual
theorem DU.dp {C : GCtx} {F : Hp} : ∀ (x : PyData) (v : V), DU C F x v → Dp C.K F v x
  | .none, _, h => by cases (show _ = _ from h); exact .non
  | .bool _, _, h => by cases (show _ = _ from h); exact .bl _
  | .int _, _, h => by cases (show _ = _ from h); exact .int _
  | .str _, _, h => by cases (show _ = _ from h); exact .str _
  | .list ds, _, ⟨a, vs, e, h, r⟩ => by subst e; exact .lst (.inl h) (DUs.dp ds vs r)
  | .tuple ds, _, ⟨a, vs, e, h, r⟩ => by subst e; exact .tup h.sq (DUs.dp ds vs r)
  | .dict _, _, h => h.elim
theorem DUs.dp {C : GCtx} {F : Hp} : ∀ (xs : List PyData) (vs : List V), DUs C F xs vs → DpAll C.K F vs xs
  | [], [], _ => .nil
  | d :: ds, v :: vs, h => .cons (DU.dp d v h.1) (DUs.dp ds vs h.2)
  | [], _ :: _, h => h.elim
  | _ :: _, [], h => h.elim
end
mutual
theorem DU.pl {C : GCtx} {F : Hp} : ∀ (x : PyData) (v : V), DU C F x v → x.plain = true
  | .none, _, _ => rfl
  | .bool _, _, _ => rfl
  | .int _, _, _ => rfl
  | .str _, _, _ => rfl
  | .list ds, _, ⟨a, vs, e, h, r⟩ => by simp only [PyData.plain]; exact DUs.pl ds vs r
  | .tuple ds, _, ⟨a, vs, e, h, r⟩ => by simp only [PyData.plain]; exact DUs.pl ds vs r
  | .dict _, _, h => h.elim
theorem DUs.pl {C : GCtx} {F : Hp} : ∀ (xs : List PyData) (vs : List V), DUs C F xs vs → PyData.plainAll xs = true
  | [], _, _ => rfl
  | d :: ds, v :: vs, h => by simp only [PyData.plainAll, DU.pl d v h.1, DUs.pl ds vs h.2, Bool.and_self]
  | _ :: _, [], h => h.elim
end
abbrev U := PyData
@[reducible] def dU : Dat U := ⟨fun C F v x => DU C F x v, fun s h => DU.mono s _ _ h⟩
/-- data that are plain data -/
class UD (α : Type) [d : Dat α] where
  toU : α → U
  du : ∀ {C : GCtx} {F : Hp} {v : V} {x : α}, d.rep C F v x → DU C F (toU x) v
instance udInt : UD Int := ⟨.int, fun h => h⟩
instance udBool : UD Bool := ⟨.bool, fun h => h⟩
instance udStr : UD Str := ⟨.str, fun h => h⟩
instance udUnit : UD Unit := ⟨fun _ => .none, fun h => h⟩
theorem dus_of {α : Type} {d : Dat α} [u : @UD α d] {C : GCtx} {F : Hp} : ∀ {vs : List V} {xs : List α}, Reps d C F vs xs → DUs C F (xs.map u.toU) vs
  | [], [], _ => trivial
  | _ :: _, _ :: _, h => ⟨u.du h.1, dus_of h.2⟩
  | [], _ :: _, h => h.elim
  | _ :: _, [], h => h.elim
instance udList {α : Type} {d : Dat α} [u : @UD α d] : @UD (List α) dList := ⟨fun xs => .list (xs.map u.toU), fun ⟨a, vs, e, h, r⟩ => ⟨a, vs, e, h, dus_of r⟩⟩
instance udTup {α : Type} {d : Dat α} [u : @UD α d] : @UD (Tup α) dTup := ⟨fun xs => .tuple (xs.l.map u.toU), fun ⟨a, vs, e, h, r⟩ => ⟨a, vs, e, h, dus_of r⟩⟩
instance udPair {α β : Type} {d1 : Dat α} {d2 : Dat β} [u1 : @UD α d1] [u2 : @UD β d2] : @UD (α × β) dPair := ⟨fun x => .tuple [u1.toU x.1, u2.toU x.2], fun ⟨a, v1, v2, e, h, r1, r2⟩ => ⟨a, _, e, h, u1.du r1, u2.du r2, trivial⟩⟩
instance udT3 {α β γ : Type} {d1 : Dat α} {d2 : Dat β} {d3 : Dat γ} [u1 : @UD α d1] [u2 : @UD β d2] [u3 : @UD γ d3] : @UD (T3 α β γ) dT3 := ⟨fun x => .tuple [u1.toU x.a, u2.toU x.b, u3.toU x.c], fun ⟨a, v1, v2, v3, e, h, r1, r2, r3⟩ => ⟨a, _, e, h, u1.du r1, u2.du r2, u3.du r3, trivial⟩⟩
instance udT4 {α β γ δ : Type} {d1 : Dat α} {d2 : Dat β} {d3 : Dat γ} {d4 : Dat δ} [u1 : @UD α d1] [u2 : @UD β d2] [u3 : @UD γ d3] [u4 : @UD δ d4] : @UD (T4 α β γ δ) dT4 := ⟨fun x => .tuple [u1.toU x.a, u2.toU x.b, u3.toU x.c, u4.toU x.d], fun ⟨a, v1, v2, v3, v4, e, h, r1, r2, r3, r4⟩ => ⟨a, _, e, h, u1.du r1, u2.du r2, u3.du r3, u4.du r4, trivial⟩⟩
def tyU : U → String
  | .none => "NoneType" | .bool _ => "bool" | .int _ => "int" | .str _ => "str" | .list _ => "list" | .tuple _ => "tuple" | .dict _ => "dict"
/-- isinstance(x, c), c written -/
def isTy (c t : String) : Bool := c == t || (t == "bool" && c == "int")
def isU (c : String) (x : U) : Bool := isTy c (tyU x)
theorem kitU {K : Frag} {c : String} (hc : c ∈ ["bool", "int", "str", "list", "tuple"]) {x : U} (hp : x.plain = true) : kitOne K (.type (tyU x)) (.type c) = some (isU c x) := by
  refine kit_ty ?_
  simp only [List.mem_cons, List.not_mem_nil, or_false] at hc
  cases x with
  | dict _ => cases hp
  | none => rcases hc with rfl | rfl | rfl | rfl | rfl <;> (show kitB "NoneType" _ = some (isTy _ "NoneType"); decide +kernel)
  | bool _ => rcases hc with rfl | rfl | rfl | rfl | rfl <;> (show kitB "bool" _ = some (isTy _ "bool"); decide +kernel)
  | int _ => rcases hc with rfl | rfl | rfl | rfl | rfl <;> (show kitB "int" _ = some (isTy _ "int"); decide +kernel)
  | str _ => rcases hc with rfl | rfl | rfl | rfl | rfl <;> (show kitB "str" _ = some (isTy _ "str"); decide +kernel)
  | list _ => rcases hc with rfl | rfl | rfl | rfl | rfl <;> (show kitB "list" _ = some (isTy _ "list"); decide +kernel)
  | tuple _ => rcases hc with rfl | rfl | rfl | rfl | rfl <;> (show kitB "tuple" _ = some (isTy _ "tuple"); decide +kernel)
theorem DU.ty {C : GCtx} {F : Hp} {v : V} : ∀ {x : U}, DU C F x v → TyX C.K F v (.type (tyU x))
  | .none, h => by cases (show v = _ from h); exact .base .non
  | .bool _, h => by cases (show v = _ from h); exact .base (.bl _)
  | .int _, h => by cases (show v = _ from h); exact .base (.int _)
  | .str _, h => by cases (show v = _ from h); exact .base (.str _)
  | .list _, ⟨a, vs, e, h, _⟩ => by subst e; exact ty_sql (.inl h)
  | .tuple _, ⟨a, vs, e, h, _⟩ => by subst e; exact ty_tpa h
  | .dict _, h => h.elim
def isNoneU : U → Bool
  | .none => true
  | _ => false
theorem DU.non {C : GCtx} {F : Hp} {v : V} : ∀ {x : U}, DU C F x v → decide (v = .non) = isNoneU x
  | .none, h => by cases (show v = _ from h); rfl
  | .bool _, h => by cases (show v = _ from h); rfl
  | .int _, h => by cases (show v = _ from h); rfl
  | .str _, h => by cases (show v = _ from h); rfl
  | .list _, ⟨a, vs, e, h, _⟩ => by subst e; rfl
  | .tuple _, ⟨a, vs, e, h, _⟩ => by subst e; rfl
  | .dict _, h => h.elim
theorem DUs.reps {C : GCtx} {F : Hp} : ∀ {ds : List U} {vs : List V}, DUs C F ds vs → Reps dU C F vs ds
  | [], [], _ => trivial
  | _ :: _, _ :: _, h => ⟨h.1, DUs.reps h.2⟩
  | [], _ :: _, h => h.elim
  | _ :: _, [], h => h.elim
/-- the items of a list or tuple -/
def itemsU : U → Option (List U)
  | .list ds => some ds
  | .tuple ds => some ds
  | _ => none
section
variable {tx : XC → Addr} {Y : YC} {Γ : List Cell} {te ta tb : TE} {α : Type} {d : Dat α}
theorem w_U [u : @UD α d] {k : U → Prop} (h : W Y te Γ d fun x => k (u.toU x)) : W Y te Γ dU k := fun e F σ H s Q q => h e F σ H s Q fun v F' H' x kx g r => q v F' H' _ kx g (u.du r)
theorem we_U [u : @UD α d] {m : M α} (h : We tx Y te Γ d m) : We tx Y te Γ dU (m >>= fun x => .ok (u.toU x)) := we_p1w (f := u.toU) (fun k h => w_U h) h
theorem w_eqU {k : Bool → Prop} (h : R Y ta Γ dU fun x => R Y tb Γ dU fun y => (x.depth ≤ 64 ∧ y.depth ≤ 64) ∧ k (PyData.eqv x y)) : W Y (tOp (rEqP Y.K) ta tb) Γ dBool k := fun e F σ H s Q q => h e F σ H s _ fun v1 F1 H1 x h1 g1 r1 => h1 e F1 σ H1 (s.grow g1) _ fun v2 F2 H2 y ⟨hd, ky⟩ g2 r2 => by
  have q1 : DU Y.g H2 x v1 := DU.mono g2.hh0 _ _ r1
  have q2 : DU Y.g H2 y v2 := r2
  exact ⟨x, y, DU.dp _ _ q1, DU.dp _ _ q2, by unfold shP; rw [DU.pl _ _ q1, decide_eq_true hd.1]; rfl, by unfold shP; rw [DU.pl _ _ q2, decide_eq_true hd.2]; rfl, q _ F2 H2 _ ky (g1.trans0 g2) rfl⟩
theorem we_eqU {m n : M U} (h : Re tx Y ta Γ dU m) (h2 : Re tx Y tb Γ dU n) : We tx Y (tOp (rEqP Y.K) ta tb) Γ dBool (m >>= fun x => n >>= fun y => M.asrt (x.depth ≤ 64 ∧ y.depth ≤ 64) (.ok (PyData.eqv x y))) := we_g2 (P := fun x y : U => x.depth ≤ 64 ∧ y.depth ≤ 64) (f := fun x y : U => PyData.eqv x y) (fun k h => w_eqU h) h h2
theorem w_isNU {k : Bool → Prop} (h : R Y ta Γ dU fun x => k (isNoneU x)) : W Y (tOp (fun x y H Q => y = .non ∧ Q (.bl (decide (x = .non))) H) ta (tC .non)) Γ dBool k := fun e F σ H s Q q => h e F σ H s _ fun v F' H' x kx g r => ⟨rfl, q _ F' H' _ kx g (by show V.bl _ = V.bl _; rw [DU.non r])⟩
theorem we_isNU {m : M U} (h : Re tx Y ta Γ dU m) : We tx Y (tOp (fun x y H Q => y = .non ∧ Q (.bl (decide (x = .non))) H) ta (tC .non)) Γ dBool (m >>= fun x => .ok (isNoneU x)) := we_p1 (f := isNoneU) (fun k h => w_isNU h) h
theorem w_isU {c : String} {k : Bool → Prop} (hc : c ∈ ["bool", "int", "str", "list", "tuple"]) (h : R Y ta Γ dU fun x => k (isU c x)) : W Y (tCB (rIsi Y.K) (tCons ta (tCons (tC (.ty c)) tNil))) Γ dBool k := fun e F σ H s Q q => h e F σ H s _ fun v F' H' x kx g r =>
  ⟨v, .ty c, .type (tyU x), .type c, isU c x, rfl, .ty c, DU.ty r, kitU hc (DU.pl _ _ r), q _ F' H' _ kx g rfl⟩
theorem we_isU {c : String} {m : M U} (hc : c ∈ ["bool", "int", "str", "list", "tuple"]) (h : Re tx Y ta Γ dU m) : We tx Y (tCB (rIsi Y.K) (tCons ta (tCons (tC (.ty c)) tNil))) Γ dBool (m >>= fun x => .ok (isU c x)) := we_p1 (f := isU c) (fun k h => w_isU hc h) h
/-- as a list or tuple -/
theorem w_sqU {k : Sq U → Prop} (h : W Y te Γ dU fun x => ∃ ds, itemsU x = some ds ∧ k ⟨ds⟩) : W Y te Γ (dSq (d := dU)) k := fun e F σ H s Q q => h e F σ H s Q fun v F' H' x ⟨ds, hi, kx⟩ g r => q v F' H' _ kx g (by
  cases x with
  | list xs => cases hi; obtain ⟨a, vs, e1, h1, r1⟩ := r; exact ⟨a, vs, e1, .inl (.inl h1), r1.reps⟩
  | tuple xs => cases hi; obtain ⟨a, vs, e1, h1, r1⟩ := r; exact ⟨a, vs, e1, .inr h1, r1.reps⟩
  | _ => cases hi)
theorem we_sqU {m : M U} (h : We tx Y te Γ dU m) : We tx Y te Γ (dSq (d := dU)) (m >>= fun x => M.ofO (itemsU x) >>= fun ds => .ok ⟨ds⟩) := fun nb xk => w_sqU (h.k nb xk fun x e nb2 _ => by
  cases hx : itemsU x with
  | none => rw [hx] at nb2; exact absurd rfl nb2
  | some ds => exact ⟨ds, rfl, by rw [e]; show (M.ofO (itemsU x) >>= _) = _; rw [hx]; rfl⟩)
end
end G
end

noncomputable section
/-! M10: pairs that own their parts. -/
namespace G
open PySem PySem.Spec PyProof.Rows L2 PySem.W
@[reducible] def oPair {α β : Type} {d1 : Dat α} {d2 : Dat β} (od1 : @OD α d1) (od2 : @OD β d2) : @OD (α × β) (dPair (d1 := d1) (d2 := d2)) := @OD.mk (α × β) (dPair (d1 := d1) (d2 := d2))
  (fun C F v x L => ∃ a v1 v2 L1 L2, v = .ref a ∧ L = L1 ++ L2 ∧ TpA C.K F a [v1, v2] ∧ od1.orep C F v1 x.1 L1 ∧ od2.orep C F v2 x.2 L2)
  (fun s ⟨a, v1, v2, L1, L2, e, h, t, r1, r2⟩ => ⟨a, v1, v2, L1, L2, e, h, t.mono s, od1.omono s r1, od2.omono s r2⟩)
  (fun ⟨a, v1, v2, L1, L2, e, h, t, r1, r2⟩ s k => ⟨a, v1, v2, e, t.mono s, od1.view r1 s fun p hp => k p (by rw [h]; exact List.mem_append_left _ hp), od2.view r2 s fun p hp => k p (by rw [h]; exact List.mem_append_right _ hp)⟩)
theorem Wk.subl {e : En} {F : Hp} {L L' : LO} {H : Hp} (a : Wk e F L H) (h : L'.Sublist L) : Wk e F L' H := a.sub (fun _ hp => h.subset hp) (List.Nodup.sublist (h.map _) a.nd)
theorem permR {α : Type} {L1 Li L2 M1 Mi M2 : List α} (e : L1 ++ [] ++ L2 = M1 ++ Mi ++ M2) : (L1 ++ Li ++ L2).Perm ((Li ++ Mi) ++ (M1 ++ [] ++ M2)) := by
  have e' : L1 ++ L2 = M1 ++ Mi ++ M2 := by simpa using e
  have h1 : (L1 ++ Li ++ L2).Perm (Li ++ (L1 ++ L2)) := by
    rw [List.append_assoc]
    have := (List.perm_append_comm (l₁ := L1) (l₂ := Li)).append_right L2
    simpa [List.append_assoc] using this
  refine h1.trans ?_
  rw [e']
  have h2 : (M1 ++ Mi ++ M2).Perm (Mi ++ (M1 ++ M2)) := by
    have := (List.perm_append_comm (l₁ := M1) (l₂ := Mi)).append_right M2
    simpa [List.append_assoc] using this
  simpa [List.append_assoc] using h2.append_left Li
section
variable {Y : YC} {Γ : List Cell} {k : Ks} {te : TE} {α β : Type} {d1 : Dat α} {d2 : Dat β}
theorem z_retP {od1 : @OD α d1} {od2 : @OD β d2} {i j : Nat} {x : α} {y : β} (hij : i ≠ j) (hi : Γ[i]? = some (.own d1 od1 none x)) (hj : Γ[j]? = some (.own d2 od2 none y))
    (h : k.rt (.own (dPair (d1 := d1) (d2 := d2)) (oPair od1 od2) none (x, y)) ((Γ.set i .no).set j .no)) : Z Y (tRet (tTup (tCons (tVar i) (tCons (tVar j) tNil)))) Γ k := fun e F σ H D hM s c => by
  obtain ⟨hx, L, k0, sl⟩ := id s
  obtain ⟨o, L1, Li, L2, e1, e2, ⟨v, rfl, _, r⟩, f⟩ := sl.get hi
  subst e2
  have sl2 := f F (some v) .no [] (Same.refl F) rfl
  obtain ⟨o', M1, Mi, M2, e3, e4, ⟨w, rfl, _, r2⟩, f2⟩ := sl2.get (i := j) (by rw [List.getElem?_set_ne hij]; exact hj)
  have sl3 := f2 F (some w) .no [] (Same.refl F) rfl
  rw [List.getElem?_set_ne hij] at e3
  refine ⟨v, e1, w, e3, show (2 : Nat) ≤ PySem.sizeLine by decide, fun p hp => ?_⟩
  have g := Gr.lay (o := .tup [v, w]) s.base hp
  have kw := k0.trans g
  exact c.rt _ _ _ _ (.ref p) _ (Li ++ Mi) (M1 ++ [] ++ M2) h (by
    rw [List.nil_append] at kw
    exact kw.perm (permR e4)) ⟨.ref p, rfl, fun _ z => (nomatch z), p, v, w, Li, Mi, rfl, rfl, .inl upd_same, od1.omono g.ff r, od2.omono g.ff r2⟩ (sl3.mono g.ff)
theorem permS1 {α : Type} {M1 M2 L1 Li L2 : List α} : ((M1 ++ M2) ++ (L1 ++ Li ++ L2)).Perm ((M2 ++ (L1 ++ M1 ++ L2)) ++ Li) := by
  classical
  rw [List.perm_iff_count]
  intro a
  simp only [List.count_append]
  omega
theorem permS2 {α : Type} {M2 N1 Nj N2 : List α} : (M2 ++ (N1 ++ Nj ++ N2)).Perm ((N1 ++ M2 ++ N2) ++ Nj) := by
  classical
  rw [List.perm_iff_count]
  intro a
  simp only [List.count_append]
  omega
theorem z_setP {od1 : @OD α d1} {od2 : @OD β d2} {i j n : Nat} {c1 c2 : Cell} (hn : n = 2) (hij : i ≠ j) (hi : Γ[i]? = some c1) (hj : Γ[j]? = some c2)
    (h : O Y te Γ (oPair od1 od2) fun x => k.nx ((Γ.set i (.own d1 od1 none x.1)).set j (.own d2 od2 none x.2))) : Z Y (tAsg te (gTup Y.K n (gCons (gName i) (gCons (gName j) gNil)))) Γ k := fun e F σ H D hM s c => h e F σ H s _ fun v F' H' L' x kx g ⟨a, v1, v2, M1, M2, e1, e2, ht, r1, r2⟩ => by
  subst e1 e2 hn
  refine ⟨a, [v1, v2], rfl, (ht.mono g.fh).sq, rfl, v1, [v2], rfl, v2, [], rfl, rfl, ?_⟩
  obtain ⟨hx, L, k0, sl⟩ := id s
  obtain ⟨o, L1, Li, L2, e3, e4, _, f⟩ := sl.get hi
  subst e4
  have sl2 := f F' (some v1) (.own d1 od1 none x.1) M1 g.ff ⟨v1, rfl, fun _ z => (nomatch z), r1⟩
  obtain ⟨o', N1, Nj, N2, e5, e6, _, f2⟩ := sl2.get (i := j) (by rw [List.getElem?_set_ne hij]; exact hj)
  have sl3 := f2 F' (some v2) (.own d2 od2 none x.2) M2 (Same.refl F') ⟨v2, rfl, fun _ z => (nomatch z), r2⟩
  refine c.nx F' _ H' _ kx ⟨hx, _, ?_, sl3⟩
  have kw := k0.trans g
  have k2 : Wk e F' (M2 ++ (L1 ++ M1 ++ L2)) H' := (kw.perm permS1).subl (List.sublist_append_left _ _)
  rw [e6] at k2
  exact (k2.perm permS2).subl (List.sublist_append_left _ _)
end
section
variable {tx : XC → Addr} {Y : YC} {Γ : List Cell} {te : TE} {α β τ : Type} {d1 : Dat α} {d2 : Dat β} {rest : TS} {js : List Nat} {K : Kt τ}
theorem zm_retP {od1 : @OD α d1} {od2 : @OD β d2} {cell : α × β → Cell} {i j : Nat} {x : α} {y : β} (hij : (i == j) = false) (hi : Γ[i]? = some (.own d1 od1 none x)) (hj : Γ[j]? = some (.own d2 od2 none y)) (hc : cell = fun r => .own (dPair (d1 := d1) (d2 := d2)) (oPair od1 od2) none r := by rfl) :
    Zm tx Y js (tSeq (tRet (tTup (tCons (tVar i) (tCons (tVar j) tNil)))) rest) Γ (KF cell) (.ok (x, y)) := fun nb xk => by
  subst hc
  exact z_retP (k := (KF fun r => Cell.own (dPair (d1 := d1) (d2 := d2)) (oPair od1 od2) none r).ks (M.ok (x, y))) (by simpa using hij) hi hj ⟨(x, y), rfl, rfl⟩
theorem zm_setP {od1 : @OD α d1} {od2 : @OD β d2} {i j n : Nat} {c1 c2 : Cell} {m1 : M (α × β)} {m2 : α × β → M τ} (hn : n = 2) (hij : (i == j) = false) (hi : Γ[i]? = some c1) (hj : Γ[j]? = some c2) (hji : i ∈ js) (hjj : j ∈ js) (h : Oe tx Y te Γ (oPair od1 od2) m1)
    (h2 : ∀ x, Zm tx Y js rest ((Γ.set i (.own d1 od1 none x.1)).set j (.own d2 od2 none x.2)) K (m2 x)) : Zm tx Y js (tSeq (tAsg te (gTup Y.K n (gCons (gName i) (gCons (gName j) gNil)))) rest) Γ K (m1 >>= m2) := fun nb xk =>
  z_seq (z_setP hn (by simpa using hij) hi hj (o_mono (h (M.nb1 nb) xk.l.here) fun x e => (h2 x).go nb xk e (by rw [wipeC_set hjj, wipeC_set hji])))
end
end G
end

noncomputable section
/-! M11: constants by their class, [*xs, y]. -/
namespace L2
open PySem PySem.Spec PyProof.Rows ClX StX
section
variable {X : Cx} (K : PySem.W.Frag)
end
end L2
namespace G
open PySem PySem.Spec PyProof.Rows L2 PySem.W ClX StX
section
variable {tx : XC → Addr} {Y : YC} {Γ : List Cell} {te ta : TE} {α : Type} {d : Dat α}
end
section
variable {tx : XC → Addr} {Y : YC} {Γ : List Cell} {ta tb : TE} {α : Type} {d : Dat α}
end
end G
end

noncomputable section
/-! M12: enumerate within comprehensions. -/
namespace G
open PySem PySem.Spec PyProof.Rows L2 PySem.W
section
variable {tx : XC → Addr} {Y : YC} {Γ : List Cell} {te ta tb tl : TE} {t u tt : TT} {α β : Type} {d : Dat α} {d2 : Dat β} {g : TG}
end
theorem wipeC_get (Γ : List Cell) : ∀ (js : List Nat) (i : Nat), i < Γ.length → i ∈ js → (wipeC Γ js)[i]? = some .no
  | [], _, _, h => nomatch h
  | j :: js, i, hl, h => by
    unfold wipeC
    by_cases e : j = i
    · subst e
      rw [List.getElem?_set_self (by rw [wipeC_len]; exact hl)]
    · rw [List.getElem?_set_ne e]
      exact wipeC_get Γ js i hl ((List.mem_cons.mp h).resolve_left fun z => e z.symm)
/-- where all slots are wiped nothing is left to compare -/
theorem wlen (n : Nat) {Γ Γ' : List Cell} {js : List Nat} (h1 : Γ.length = n) (h2 : Γ'.length = n) (hj : (List.range n).all (fun i => js.contains i) = true) : wipeC Γ js = wipeC Γ' js := by
  apply List.ext_getElem?
  intro i
  by_cases hi : i < n
  · have hm : i ∈ js := by
      have := List.all_eq_true.mp hj i (List.mem_range.mpr hi)
      simpa using this
    rw [wipeC_get Γ js i (by omega) hm, wipeC_get Γ' js i (by omega) hm]
  · rw [List.getElem?_eq_none (by rw [wipeC_len]; omega), List.getElem?_eq_none (by rw [wipeC_len]; omega)]
end G
end

noncomputable section
/-! M13: defs that change what is passed to them. -/
namespace G
open PySem PySem.Spec PyProof.Rows L2 PySem.W
/-- the heap without what is lent -/
def minus (H : Hp) (L : LO) : Hp := fun a => if a ∈ L.map Prod.fst then none else H a
theorem minus_out {H : Hp} {L : LO} {a : Addr} (h : a ∉ L.map Prod.fst) : minus H L a = H a := if_neg h
theorem minus_in {H : Hp} {L : LO} {a : Addr} (h : a ∈ L.map Prod.fst) : minus H L a = none := if_pos h
theorem Wk.lend {e : En} {F H : Hp} {Li L : LO} (a : Wk e F (Li ++ L) H) : Wk ⟨F, minus H Li, []⟩ F Li H where
  ff := Same.refl _
  hh := fun x o _ h => by
    have h : minus H Li x = some o := h
    by_cases hx : x ∈ Li.map Prod.fst
    · rw [minus_in hx] at h; cases h
    · rw [minus_out hx] at h; exact h
  th := fun x h => by
    have h : minus H Li x ≠ none := h
    by_cases hx : x ∈ Li.map Prod.fst
    · exact absurd (minus_in hx) h
    · rw [minus_out hx] at h; exact h
  fh := a.fh
  nw := fun _ _ h => h
  tp := a.tp
  ow := fun p hp => by
    obtain ⟨h1, h2, _⟩ := a.ow p (List.mem_append_left _ hp)
    exact ⟨h1, h2, .inl (minus_in (List.mem_map.mpr ⟨p, hp, rfl⟩))⟩
  nd := by
    have h := a.nd
    rw [List.map_append] at h
    exact (List.nodup_append.mp h).1
theorem Wk.transM {e : En} (hM : e.M = []) {F F' H H' : Hp} {Li L L' : LO} (a : Wk e F (Li ++ L) H) (b : Wk ⟨F, minus H Li, []⟩ F' L' H') : Wk e F' (L' ++ L) H' := by
  have own0 : ∀ x, x ∈ Li.map Prod.fst → e.H0 x = none := fun x hx => by
    obtain ⟨p, hp, rfl⟩ := List.mem_map.mp hx
    rcases (a.ow p (List.mem_append_left _ hp)).2.2 with h | h
    · exact h
    · rw [hM] at h; cases h
  have keep : ∀ x, e.H0 x ≠ none → minus H Li x = H x := fun x h => minus_out fun z => h (own0 x z)
  refine ⟨a.ff.trans b.ff, fun x o hx h => ?_, fun x h => ?_, b.fh, fun x h h' => ?_, b.tp, fun p hp => ?_, ?_⟩
  · exact b.hh x o (fun z => nomatch z) (by show minus H Li x = some o; rw [keep x (ne_some h)]; exact a.hh x o hx h)
  · exact b.th x (by show minus H Li x ≠ none; rw [keep x h]; exact a.th x h)
  · exact b.nw x (by show minus H Li x ≠ none; rw [keep x h]; exact a.th x h) (a.nw x h h')
  · rcases List.mem_append.mp hp with hp | hp
    · obtain ⟨h1, h2, h3⟩ := b.ow p hp
      refine ⟨h1, h2, .inl ?_⟩
      have h4 : minus H Li p.1 = none := h3.resolve_right fun z => nomatch z
      by_cases hx : p.1 ∈ Li.map Prod.fst
      · exact own0 _ hx
      · rw [minus_out hx] at h4
        cases q : e.H0 p.1 with
        | none => rfl
        | some o => exact absurd h4 (a.th p.1 (ne_some q))
    · obtain ⟨h1, h2, h3⟩ := a.ow p (List.mem_append_right _ hp)
      have hx : p.1 ∉ Li.map Prod.fst := fun z => by
        have h := a.nd
        rw [List.map_append] at h
        exact (List.nodup_append.mp h).2.2 p.1 z p.1 (List.mem_map.mpr ⟨p, hp, rfl⟩) rfl
      have e1 : minus H Li p.1 = some p.2 := by rw [minus_out hx]; exact h2
      exact ⟨b.nw p.1 (ne_some e1) h1, b.hh p.1 p.2 (fun z => nomatch z) e1, h3⟩
  · rw [List.map_append]
    refine List.nodup_append.mpr ⟨b.nd, ?_, fun x hx y hy z => ?_⟩
    · have h := a.nd
      rw [List.map_append] at h
      exact (List.nodup_append.mp h).2.1
    · subst z
      obtain ⟨p, hp, e1⟩ := List.mem_map.mp hx
      obtain ⟨q, hq, e2⟩ := List.mem_map.mp hy
      obtain ⟨_, _, h3⟩ := b.ow p hp
      have h4 : minus H Li p.1 = none := h3.resolve_right fun z => nomatch z
      obtain ⟨_, h5, _⟩ := a.ow q (List.mem_append_right _ hq)
      have hx2 : q.1 ∉ Li.map Prod.fst := fun z => by
        have h := a.nd
        rw [List.map_append] at h
        exact (List.nodup_append.mp h).2.2 q.1 z q.1 (List.mem_map.mpr ⟨q, hq, rfl⟩) rfl
      have e4 : p.1 = q.1 := (show p.1 = x from e1).trans (show q.1 = x from e2).symm
      rw [e4, minus_out hx2, h5] at h4
      cases h4
/-- a def that changes the arguments at the places ms -/
def FnM (C : GCtx) {α : Type} (dr : Dat α) (Γ : List Cell) (ms : List Nat) (post : α → List Cell → Prop) (vs : List V) (H : Hp) (Q : VK) (E : XK) : Prop :=
  ∃ F L H0, Wk ⟨F, H0, []⟩ F L H ∧ Slots C F (vs.map some) Γ L ∧ ∀ v F' H' r Γm L2, post r Γm → Wk ⟨F, H0, []⟩ F' L2 H' → dr.rep C F' v r → Slots C F' (ms.map fun j => vs[j]?) Γm L2 → Q v H'
theorem FnM.len {C : GCtx} {α : Type} {dr : Dat α} {Γ : List Cell} {ms : List Nat} {post : α → List Cell → Prop} {vs : List V} {H : Hp} {Q : VK} {E : XK} (h : FnM C dr Γ ms post vs H Q E) : vs.length = Γ.length := by
  obtain ⟨F, L, H0, _, s, _⟩ := h
  simpa using s.len
def SpM (C : GCtx) (sp : Sp) {α : Type} (dr : Dat α) (cs : List Cell) (ms : List Nat) (post : α → List Cell → Prop) : Prop := ∀ vs H Q E, FnM C dr cs ms post vs H Q E → sp vs H Q E
/-! arguments of which some are lent: (slot, cell) -/
abbrev AC := Cell ⊕ (Nat × Cell)
def AC.cell : AC → Cell
  | .inl c => c
  | .inr p => p.2
def MArgs (C : GCtx) (F : Hp) (σ : _root_.L2.St) : List V → List AC → Prop
  | [], [] => True
  | v :: vs, .inl c :: as => CellOk C F (some v) c [] ∧ MArgs C F σ vs as
  | v :: vs, .inr p :: as => σ[p.1]? = some (some v) ∧ MArgs C F σ vs as
  | [], _ :: _ => False
  | _ :: _, [] => False
theorem MArgs.mono {C : GCtx} {F F' : Hp} {σ : _root_.L2.St} (s : Same F F') : ∀ {vs : List V} {as : List AC}, MArgs C F σ vs as → MArgs C F' σ vs as
  | [], [], h => h
  | _ :: _, .inl _ :: _, h => ⟨h.1.mono s, h.2.mono s⟩
  | _ :: _, .inr _ :: _, h => ⟨h.1, h.2.mono s⟩
  | [], _ :: _, h => h.elim
  | _ :: _, [], h => h.elim
theorem MArgs.slots {C : GCtx} {F : Hp} {σ : _root_.L2.St} : ∀ {vs : List V} {cs : List Cell}, MArgs C F σ vs (cs.map .inl) → Slots C F (vs.map some) cs []
  | [], [], _ => .nil
  | _ :: _, _ :: _, h => .cons (L := []) (L' := []) h.1 h.2.slots
  | [], _ :: _, h => h.elim
  | _ :: _, [], h => h.elim
theorem MArgs.at {C : GCtx} {F : Hp} {σ : _root_.L2.St} {j : Nat} {c : Cell} {post : List AC} : ∀ {pre : List Cell} {vs : List V}, MArgs C F σ vs (pre.map .inl ++ .inr (j, c) :: post) →
    ∃ vs1 v vs2, vs = vs1 ++ v :: vs2 ∧ vs1.length = pre.length ∧ σ[j]? = some (some v) ∧ Slots C F (vs1.map some) pre [] ∧ MArgs C F σ vs2 post
  | [], v :: vs, h => ⟨[], v, vs, rfl, rfl, h.1, .nil, h.2⟩
  | c0 :: pre, v :: vs, h => by
    obtain ⟨vs1, u, vs2, e, hl, hj, sl, hr⟩ := MArgs.at (pre := pre) h.2
    exact ⟨v :: vs1, u, vs2, by rw [e]; rfl, by simp [hl], hj, .cons (L := []) (L' := []) h.1 sl, hr⟩
  | [], [], h => h.elim
  | _ :: _, [], h => h.elim
def MA (Y : YC) (tl : TA) (Γ : List Cell) (k : List AC → Prop) : Prop := ∀ (e : En) (F : Hp) (σ : _root_.L2.St) (H : Hp), State Y e F σ H Γ → ∀ Q : List V → Hp → Prop, (∀ vs F' H' as, k as → Gr F H F' H' → MArgs Y.g F' σ vs as → Q vs H') → tl σ H Q
section
variable {tx : XC → Addr} {Y : YC} {Γ : List Cell} {te : TE} {tr tl : TA} {α β τ σ : Type} {d : Dat α} {rest : TS} {js : List Nat} {K : Kt τ}
theorem ma_nil {k : List AC → Prop} (hk : k []) : MA Y tNil Γ k := fun e F σ H s Q q => q [] F H [] hk s.base trivial
theorem ma_cons {k : List AC → Prop} (h : W Y te Γ d fun x => MA Y tr Γ fun as => k (.inl (.val d x) :: as)) : MA Y (tCons te tr) Γ k := fun e F σ H s Q q => h e F σ H s _ fun v F1 H1 x h1 g1 r1 => h1 e F1 σ H1 (s.grow g1) _ fun vs F2 H2 as kc g2 r2 =>
  q (v :: vs) F2 H2 _ kc (g1.trans0 g2) ⟨⟨rfl, v, rfl, d.mono g2.ff r1⟩, r2⟩
theorem ma_own {k : List AC → Prop} {od : OD α} {x : α} {j : Nat} {pin : Option V} (hj : Γ[j]? = some (.own d od pin x)) (h : MA Y tr Γ fun as => k (.inr (j, .own d od none x) :: as)) : MA Y (tCons (tVar j) tr) Γ k := fun e F σ H s Q q => by
  obtain ⟨v, e1, r⟩ := s.own hj
  exact ⟨v, e1, h e F σ H s _ fun vs F2 H2 as kc g2 r2 => q (v :: vs) F2 H2 _ kc g2 ⟨e1, r2⟩⟩
/-- .. with models -/
def Mm (tx : XC → Addr) (Y : YC) (tl : TA) (Γ : List Cell) {τ : Type} (m : M τ) (R : List AC → M τ → Prop) : Prop := (∃ y, m = .ok y) → MA Y tl Γ fun l => R l m
theorem mm_nil {m : M τ} {R : List AC → M τ → Prop} (h : (∃ y, m = .ok y) → R [] m) : Mm tx Y tNil Γ m R := fun hy => ma_nil (h hy)
theorem ma_mono {k k' : List AC → Prop} (h : MA Y tl Γ k) (m : ∀ l, k l → k' l) : MA Y tl Γ k' := fun e F σ H s Q q => h e F σ H s Q fun vs F' H' as kc g r => q vs F' H' as (m as kc) g r
theorem bind_okD {m1 : M α} {f : α → M τ} {y : τ} (h : (m1 >>= f) = .ok y) : ∃ x, m1 = .ok x ∧ f x = .ok y := by
  cases m1 with
  | ok x => exact ⟨x, rfl, h⟩
  | exc x => cases h
  | bad => cases h
theorem mm_cons {m1 : M α} {f : α → M τ} {R : List AC → M τ → Prop} (h : We tx Y te Γ d m1) (h2 : ∀ x, Mm tx Y tr Γ (f x) fun l m => R (.inl (.val d x) :: l) m) : Mm tx Y (tCons te tr) Γ (m1 >>= f) R := fun ⟨y, hy⟩ => by
  obtain ⟨x, e1, e2⟩ := bind_okD hy
  subst e1
  refine ma_cons (w_mono (h (fun z => nomatch z) XkM.ok) fun x' ex => ?_)
  cases ex
  exact ma_mono (h2 x ⟨y, e2⟩) fun l hl => hl
theorem mm_own {od : OD α} {x : α} {j : Nat} {pin : Option V} {m : M τ} {R : List AC → M τ → Prop} (hj : Γ[j]? = some (.own d od pin x)) (h : Mm tx Y tr Γ m fun l m => R (.inr (j, .own d od none x) :: l) m) : Mm tx Y (tCons (tVar j) tr) Γ m R := fun hy => ma_own hj (h hy)
/-- the promise of a def that changes one of its arguments, what it is called with -/
def Lend1 (Y : YC) (sp : Sp) (dr : Dat β) (od : OD α) (j : Nat) (c : Cell) (l : List AC) (m : M (β × α)) : Prop :=
  ∃ pre post : List Cell, l = pre.map .inl ++ .inr (j, c) :: post.map .inl ∧ SpM Y.g sp dr (pre ++ c :: post) [pre.length] fun r Γm => ∃ x', m = .ok (r, x') ∧ Γm = [.own d od none x']
theorem z_callM1 {dr : Dat β} {od : OD α} {x : α} {j : Nat} {pin : Option V} {sp : Sp} {E : _root_.L2.St → XK} {m : M (β × α)} {e : En} {F : Hp} {σ : _root_.L2.St} {H : Hp} {Q : VK} (hM : e.M = []) (s : State Y e F σ H Γ) (hj : Γ[j]? = some (.own d od pin x))
    (h : MA Y tl Γ fun l => Lend1 Y sp dr od j (.own d od none x) l m) (q : ∀ v F' H' r x', m = .ok (r, x') → State Y e F' σ H' (Γ.set j (.own d od pin x')) → dr.rep Y.g F' v r → Q v H') : tCallS sp E tl σ H Q :=
  h e F σ H s _ fun vs F1 H1 l ⟨pre, post, el, hsp⟩ g1 ha => by
    subst el
    obtain ⟨vs1, v, vs2, ev, hl, hv, sl1, ha2⟩ := ha.at
    obtain ⟨v', Li, rest, e1, r, kw, f⟩ := (s.grow g1).mut hj
    rw [e1] at hv
    cases hv
    refine hsp vs H1 Q (E σ) ⟨F1, Li, minus H1 Li, kw.lend, ?_, fun u F' H' r' Γm L2 ⟨x', em, eΓ⟩ k2 hr sl2 => ?_⟩
    · subst ev
      rw [List.map_append, List.map_cons]
      have := slots_app sl1 (Slots.cons (L := Li) (L' := []) (c := .own d od none x) ⟨v, rfl, (fun _ z => nomatch z), r⟩ ha2.slots)
      simpa using this
    · subst eΓ
      have k3 := kw.transM hM k2
      have hvp : vs[pre.length]? = some v := by rw [ev, List.getElem?_append_right (by omega), hl, Nat.sub_self]; rfl
      simp only [List.map_cons, List.map_nil, hvp] at sl2
      cases sl2 with
      | @cons _ _ La Lb _ _ hc hn =>
        cases hn
        obtain ⟨w, ew, _, rr⟩ := hc
        cases ew
        rw [List.append_nil] at k3 k2
        exact q u F' H' r' x' em (f F' H' La x' k2.ff k3 rr) hr
/-! ### the body of such a def -/
/-- a def's end; chk: what stands in the slots of the changed -/
def KFM {ρ σ : Type} (cell : ρ → Cell) (chk : σ → List Cell → Prop) : Kt (ρ × σ) := ⟨fun t Γ => .val dUnit () = cell t.1 ∧ chk t.2 Γ, fun t c Γ => c = cell t.1 ∧ chk t.2 Γ, fun _ _ => False, fun _ _ => False⟩
theorem zm_retM {cell : β → Cell} {dr : Dat β} {chk : σ → List Cell → Prop} {m : M β} {x : σ} (h : We tx Y te Γ dr m) (hx : chk x Γ) (hc : cell = fun r => .val dr r := by rfl) : Zm tx Y js (tSeq (tRet te) rest) Γ (KFM cell chk) (m >>= fun r => .ok (r, x)) := fun nb xk => by
  subst hc
  exact z_ret (te := te) (k := (KFM (fun r => Cell.val dr r) chk).ks (m >>= fun r => .ok (r, x))) (w_mono (h (M.nb1 nb) xk.l.here) fun r e => ⟨(r, x), by rw [e]; rfl, rfl, hx⟩)
theorem Zm.bodyM1 {C : GCtx} {N : List Str} {dr : Dat β} {od : OD α} {x : α} {p : Nat} {Γ' : V → List Cell} {m : M (β × α)} {vs : List V} {H : Hp} {Q : VK} {E : XK} {ts : TS} (nb : m.nb) (hp : Γ[p]? = some (.own d od none x)) (h : FnM C dr Γ [p] (fun r Γm => ∃ x', m = .ok (r, x') ∧ Γm = [.own d od none x']) vs H Q E) (hme : ∃ y, m = .ok y)
    (hΓ : ∀ u, Γ' u = Γ.set p (.own d od (some u) x) ++ List.replicate (N.length - Γ.length) .no)
    (hz : ∀ u : V, Zm tx ⟨C, fun _ => E, fun _ _ => False⟩ js ts (Γ' u) (KFM (fun r => .val dr r) fun x' Γ2 => Γ2[p]? = some (.own d od (some u) x')) m) : ts { nx := fun _ H' => Q .non H', rt := Q } (_root_.L2.start N vs) H := by
  have hl := h.len
  obtain ⟨y, ey⟩ := hme
  obtain ⟨F, L, H0, kw, sl, q⟩ := h
  obtain ⟨o, L1, Li, L2, e1, e2, ⟨u, rfl, _, r⟩, f⟩ := sl.get hp
  subst e2
  have hlt := (List.getElem?_eq_some_iff.mp hp).1
  have hu : vs[p]? = some u := by
    rw [List.getElem?_map] at e1
    cases hv : vs[p]? with
    | none => rw [hv] at e1; cases e1
    | some w => rw [hv] at e1; cases e1; rfl
  have ez : (vs.map some).set p (some u) = vs.map some := by
    apply List.ext_getElem?
    intro k
    by_cases hk : p = k
    · subst hk
      rw [List.getElem?_set_self (by rw [List.length_map, hl]; exact hlt), e1]
    · rw [List.getElem?_set_ne hk]
  have sl1 := f F (some u) (.own d od (some u) x) Li (Same.refl _) ⟨u, rfl, fun w z => by cases z; rfl, r⟩
  rw [ez] at sl1
  have st : State ⟨C, fun _ => E, fun _ _ => False⟩ ⟨F, H0, []⟩ F (_root_.L2.start N vs) H (Γ.set p (.own d od (some u) x) ++ List.replicate (N.length - Γ.length) .no) := by
    refine ⟨fun x d F' σ' H' Γ' k => k.elim, L1 ++ Li ++ L2, kw, ?_⟩
    unfold _root_.L2.start
    rw [← hl]
    have := slots_app sl1 (slots_pad (C := C) (F := F) (N.length - vs.length))
    simpa using this
  have hz' := hz u nb fun _ e2 => by rw [ey] at e2; cases e2
  rw [hΓ u] at hz'
  have fin : ∀ (v : V) (F' H' : Hp) (σ' : _root_.L2.St) (Γ2 : List Cell) (Lr : LO) (r' : β) (x' : α), m = .ok (r', x') → Γ2[p]? = some (.own d od (some u) x') → Wk ⟨F, H0, []⟩ F' Lr H' → dr.rep C F' v r' → Slots C F' σ' Γ2 Lr → Q v H' := fun v F' H' σ' Γ2 Lr r' x' em hg k2 hr sl2 => by
    obtain ⟨o2, P1, Mi, P2, e3, e4, ⟨w, rfl, hw, rr⟩, _⟩ := sl2.get hg
    cases hw u rfl
    subst e4
    refine q v F' H' r' _ Mi ⟨x', em, rfl⟩ (k2.front.subl (List.sublist_append_left _ _)) hr ?_
    rw [List.map_cons, List.map_nil, hu]
    have hcell : CellOk C F' (some u) (.own d od none x') Mi := ⟨u, rfl, (fun _ z => nomatch z), rr⟩
    have hs := Slots.cons hcell (Slots.nil (C := C) (F := F'))
    rw [List.append_nil] at hs
    exact hs
  refine hz' ⟨F, H0, []⟩ F (_root_.L2.start N vs) H _ rfl st ⟨fun F' σ' H' Γ2 hn s' => ?_, fun F' σ' H' Γ2 v c Lc L' hn k2 rc sl2 => ?_, fun _ _ _ _ z => ?_, fun _ _ _ _ z => ?_⟩
  · obtain ⟨t, em, ec, hg⟩ := hn
    obtain ⟨_, Lr, k2, sl2⟩ := s'
    refine fin .non F' H' σ' Γ2 Lr t.1 t.2 em hg k2 ?_ sl2
    have : CellOk C F' (some V.non) (.val dUnit ()) [] := ⟨rfl, .non, rfl, rfl⟩
    rw [ec] at this
    obtain ⟨_, v', ev, rv⟩ := this
    cases ev
    exact rv
  · obtain ⟨t, em, ec, hg⟩ := hn
    subst ec
    obtain ⟨el, v', ev, rv⟩ := rc
    cases ev
    subst el
    exact fin v F' H' σ' Γ2 L' t.1 t.2 em hg k2 rv sl2
  · obtain ⟨_, _, z⟩ := z; exact z.elim
  · obtain ⟨_, _, z⟩ := z; exact z.elim
end
theorem KReps.imm {α : Type} {d : Dat α} [i : @Imm α d] {C : GCtx} {F H : Hp} (t : ∀ a xs, H a = some (.tup xs) → F a = some (.tup xs)) : ∀ {ps : List (Key × V)} {xs : List (Int × α)}, KReps d C H ps xs → KReps d C F ps xs
  | [], [], _ => trivial
  | _ :: _, _ :: _, h => ⟨h.1, i.imm t h.2.1, KReps.imm t h.2.2⟩
  | [], _ :: _, h => h.elim
  | _ :: _, [], h => h.elim
instance mDI {α : Type} [d : Dat α] [i : Imm α] : OIm (DI α) oDI := ⟨fun t ⟨a, ps, e, h, r⟩ => ⟨a, ps, e, h, r.imm t⟩⟩
/-! lent, and others borrowed meanwhile -/
section
variable {tx : XC → Addr} {Y : YC} {Γ : List Cell} {te : TE} {tr tl : TA} {α β τ σ : Type} {d : Dat α} {rest : TS} {js : List Nat} {K : Kt τ} {j0 : Nat}
end
end G
end

section
set_option maxHeartbeats 2000000
noncomputable section
/-! M14: set comprehensions of ints, sorted. -/
namespace L2
open PySem PySem.Spec PyProof.Rows
section
variable {X : Cx}
end
end L2
namespace G
open PySem PySem.Spec PyProof.Rows L2 PySem.W
section
variable {tx : XC → Addr} {Y : YC} {Γ : List Cell} {ta te tl : TE} {tt : TT} {g : TG} {α τ : Type} {d : Dat α} {vs : List Nat}
end
end G
end
end

noncomputable section
/-! M15: a == b == c. -/
namespace G
open PySem PySem.Spec PyProof.Rows L2 PySem.W
section
variable {tx : XC → Addr} {Y : YC} {Γ : List Cell} {ta tb tc : TE}
end
section
variable {tx : XC → Addr} {Y : YC} {Γ : List Cell} {ta tb te : TE} {α τ : Type} {d : Dat α} {rest : TS} {js : List Nat} {K : Kt τ}
end
end G
end

noncomputable section
/-! M16: while with a walrus, None or a value narrowed, list.remove. -/
namespace G
open PySem PySem.Spec PyProof.Rows L2 PySem.W
section
variable {tx : XC → Addr} {Y : YC} {Γ : List Cell} {ta tb te : TE} {α β τ σ : Type} {d : Dat α} {ts rest : TS} {js js' : List Nat} {K : Kt τ} {i : Nat}
/-- xs.remove(k) -/
def M.remove (xs : List Int) (m : M Int) : M (List Int) := m >>= fun k => M.asrt (k ∈ xs) (.ok (xs.erase k))
end
end G
end

noncomputable section
/-! M17: for over a list that is owned and changed later. -/
namespace G
open PySem PySem.Spec PyProof.Rows L2 PySem.W
section
variable {tx : XC → Addr} {Y : YC} {Γ : List Cell} {te ta tb tc td tl : TE} {t u tt : TT} {α β γ δ ε σ τ ρ : Type} {d : Dat α} {d1 : Dat α} {d2 : Dat β} {d3 : Dat γ} {g : TG} {ts t1 t2 rest : TS} {js js' vs : List Nat} {K : Kt τ}
/-- what a for asks, P: what its turns keep -/
def BodyP (Y : YC) (g : TG) (ts : TS) {α : Type} (d : Dat α) (k : Ks) (get : Nat → Option α) (n : Nat) (Γ : List Cell) (P : List Cell → Prop) : Prop :=
  ∃ I : Nat → List Cell → Prop, I 0 Γ ∧ (∀ n Γ', I n Γ' → P Γ') ∧ (∀ i x Γ', get i = some x → I i Γ' → A Y g Γ' d x fun Γ2 => Z Y ts Γ2 { nx := I (i + 1), ct := I (i + 1), bk := k.nx, rt := k.rt }) ∧ ∀ Γ', I n Γ' → k.nx Γ'
theorem BodyP.body {k : Ks} {get : Nat → Option α} {n : Nat} {P : List Cell → Prop} (h : BodyP Y g ts d k get n Γ P) : Body Y g ts d k get n Γ := let ⟨I, h0, _, hs, hd⟩ := h; ⟨I, h0, hs, hd⟩
end
end G
end

noncomputable section
/-! M18: None or plain data, as plain data. -/
namespace G
open PySem PySem.Spec PyProof.Rows L2 PySem.W
def optU {α : Type} (f : α → PyData) : Opt α → PyData
  | .none => .none
  | .some x => f x
instance udOpt {α : Type} {d : Dat α} [u : @UD α d] : @UD (Opt α) (dOpt (d := d)) := ⟨optU u.toU, fun {C F v x} h => match x, h with
  | .none, h => h
  | .some _, h => u.du h⟩
end G
end

noncomputable section
/-! M19: plain data read as data of a known shape. -/
namespace G
open PySem PySem.Spec PyProof.Rows L2 PySem.W
/-- what plain data are, seen as of a shape -/
class OU (α : Type) [d : Dat α] where
  ofU : PyData → Option α
  snd : ∀ {C : GCtx} {F : Hp} {v : V} {x : PyData} {y : α}, ofU x = some y → DU C F x v → d.rep C F v y
def ofInt : PyData → Option Int | .int i => some i | _ => none
def ofBool : PyData → Option Bool | .bool i => some i | _ => none
def ofStr : PyData → Option Str | .str i => some i | _ => none
instance ouInt : OU Int := ⟨ofInt, fun {C F v x y} h r => by cases x <;> cases h; exact r⟩
instance ouBool : OU Bool := ⟨ofBool, fun {C F v x y} h r => by cases x <;> cases h; exact r⟩
instance ouStr : OU Str := ⟨ofStr, fun {C F v x y} h r => by cases x <;> cases h; exact r⟩
def ofAll {α : Type} (f : PyData → Option α) : List PyData → Option (List α)
  | [] => some []
  | x :: xs => match f x, ofAll f xs with | some y, some ys => some (y :: ys) | _, _ => none
theorem ofAll_reps {α : Type} {d : Dat α} [o : @OU α d] {C : GCtx} {F : Hp} : ∀ {ds : List PyData} {ys : List α} {vs : List V}, ofAll o.ofU ds = some ys → DUs C F ds vs → Reps d C F vs ys
  | [], ys, [], h, _ => by cases h; trivial
  | x :: xs, ys, v :: vs, h, r => by
    unfold ofAll at h
    cases h1 : o.ofU x with
    | none => rw [h1] at h; cases h
    | some y =>
      cases h2 : ofAll o.ofU xs with
      | none => rw [h1, h2] at h; cases h
      | some zs =>
        rw [h1, h2] at h
        cases h
        exact ⟨o.snd h1 r.1, ofAll_reps h2 r.2⟩
  | [], _, _ :: _, _, r => r.elim
  | _ :: _, _, [], _, r => r.elim
def ofList {α : Type} (f : PyData → Option α) : PyData → Option (List α)
  | .list ds => ofAll f ds
  | _ => none
def ofTup {α : Type} (f : PyData → Option α) : PyData → Option (Tup α)
  | .tuple ds => (ofAll f ds).map fun xs => ⟨xs⟩
  | _ => none
instance ouList {α : Type} {d : Dat α} [o : @OU α d] : @OU (List α) dList := ⟨ofList o.ofU, fun {C F v x y} h r => by
  cases x with
  | list ds =>
    obtain ⟨a, vs, e, h1, r1⟩ := r
    exact ⟨a, vs, e, h1, ofAll_reps h r1⟩
  | _ => cases h⟩
instance ouTup {α : Type} {d : Dat α} [o : @OU α d] : @OU (Tup α) dTup := ⟨ofTup o.ofU, fun {C F v x y} h r => by
  cases x with
  | tuple ds =>
    obtain ⟨a, vs, e, h1, r1⟩ := r
    have h : (ofAll o.ofU ds).map (fun xs => (⟨xs⟩ : Tup α)) = some y := h
    cases h2 : ofAll o.ofU ds with
    | none => rw [h2] at h; cases h
    | some xs =>
      rw [h2] at h
      cases h
      exact ⟨a, vs, e, h1, ofAll_reps h2 r1⟩
  | _ => cases h⟩
def ofPair {α β : Type} (f : PyData → Option α) (g : PyData → Option β) : PyData → Option (α × β)
  | .tuple [x, y] => match f x, g y with | some a, some b => some (a, b) | _, _ => none
  | _ => none
instance ouPair {α β : Type} {d1 : Dat α} {d2 : Dat β} [o1 : @OU α d1] [o2 : @OU β d2] : @OU (α × β) dPair := ⟨ofPair o1.ofU o2.ofU, fun {C F v x y} h r => by
  unfold ofPair at h
  split at h
  · rename_i x1 x2
    cases h1 : o1.ofU x1 with
    | none => rw [h1] at h; cases h
    | some a =>
      cases h2 : o2.ofU x2 with
      | none => rw [h1, h2] at h; cases h
      | some b =>
        rw [h1, h2] at h
        cases h
        obtain ⟨p, vs, e, ht, r1⟩ := r
        match vs, r1 with
        | [v1, v2], r1 => exact ⟨p, v1, v2, e, ht, o1.snd h1 r1.1, o2.snd h2 r1.2.1⟩
  · cases h⟩
def ofT4 {α β γ δ : Type} (f : PyData → Option α) (g : PyData → Option β) (h : PyData → Option γ) (i : PyData → Option δ) : PyData → Option (T4 α β γ δ)
  | .tuple [x, y, z, w] => match f x, g y, h z, i w with | some a, some b, some c, some d => some ⟨a, b, c, d⟩ | _, _, _, _ => none
  | _ => none
instance ouT4 {α β γ δ : Type} {d1 : Dat α} {d2 : Dat β} {d3 : Dat γ} {d4 : Dat δ} [o1 : @OU α d1] [o2 : @OU β d2] [o3 : @OU γ d3] [o4 : @OU δ d4] : @OU (T4 α β γ δ) dT4 := ⟨ofT4 o1.ofU o2.ofU o3.ofU o4.ofU, fun {C F v x y} h r => by
  unfold ofT4 at h
  split at h
  · rename_i x1 x2 x3 x4
    cases h1 : o1.ofU x1 with
    | none => rw [h1] at h; cases h
    | some a =>
      cases h2 : o2.ofU x2 with
      | none => rw [h1, h2] at h; cases h
      | some b =>
        cases h3 : o3.ofU x3 with
        | none => rw [h1, h2, h3] at h; cases h
        | some c =>
          cases h4 : o4.ofU x4 with
          | none => rw [h1, h2, h3, h4] at h; cases h
          | some d =>
            rw [h1, h2, h3, h4] at h
            cases h
            obtain ⟨p, vs, e, ht, r1⟩ := r
            match vs, r1 with
            | [v1, v2, v3, v4], r1 => exact ⟨p, v1, v2, v3, v4, e, ht, o1.snd h1 r1.1, o2.snd h2 r1.2.1, o3.snd h3 r1.2.2.1, o4.snd h4 r1.2.2.2.1⟩
  · cases h⟩
section
variable {tx : XC → Addr} {Y : YC} {Γ : List Cell} {te : TE} {α : Type} {d : Dat α}
end
end G
end

noncomputable section
/-! M20: xs[::-1]. -/
namespace G
open PySem PySem.Spec PyProof.Rows L2 PySem.W
section
variable {tx : XC → Addr} {Y : YC} {Γ : List Cell} {te : TE} {α : Type} {d : Dat α}
end
end G
end

noncomputable section
/-! M21: pairs that own one part. -/
namespace G
open PySem PySem.Spec PyProof.Rows L2 PySem.W
/-- frozen data, as a part of what is owned -/
@[reducible] def oFz {α : Type} {d : Dat α} : @OD α d := @OD.mk α d (fun C F v x L => L = [] ∧ d.rep C F v x) (fun s ⟨e, r⟩ => ⟨e, d.mono s r⟩) (fun ⟨_, r⟩ s _ => d.mono s r)
section
variable {tx : XC → Addr} {Y : YC} {Γ : List Cell} {α τ : Type} {d : Dat α} {ts : TS} {js : List Nat} {K : Kt τ} {m : M τ} {x : α}
end
end G
end

noncomputable section
/-! M22: comprehensions with two fors. -/
namespace G
open PySem PySem.Spec PyProof.Rows L2 PySem.W
section
variable {tx : XC → Addr} {Y : YC} {Γ : List Cell} {α : Type} {d : Dat α}
/-- what is walked -/
def Iw (tx : XC → Addr) (Y : YC) (ti : TI) (Γ : List Cell) {α : Type} (d : Dat α) (m : M (List α)) : Prop := m.nb → XkM tx Y Γ m → ∀ (e : En) (F : Hp) (σ : L2.St) (H : Hp), State Y e F σ H Γ → ∀ R : It → Hp → Prop,
  (∀ J F1 H1 us xs (Gd : Hp → Prop), m = .ok xs → xs.length ≤ PySem.sizeLine → Gr F H F1 H1 → (∀ H', Same F1 H' → Gd H') → Walk J us.length Gd (YAt us) → Reps d Y.g F1 us xs → R J H1) → ti σ H R
theorem iw_list {tl : TE} {m : M (List α)} (h : We tx Y tl Γ (dList (d := d)) m) : Iw tx Y (iListB Y.K tl) Γ d m := fun nb xk e F σ H s R q => h nb xk e F σ H s _ fun v F1 H1 xs hm g1 ⟨a, us, e1, hq, r⟩ => by
  subst e1
  exact ⟨a, us, rfl, g1.fh.seq hq, fun hz => q _ F1 H1 us xs (fun H' => SqL Y.K H' a us) hm (by rw [← r.len]; exact hz) g1 (fun H' sm => sm.seq hq) walk_list r⟩
theorem iw_tup {tl : TE} {m : M (Tup α)} (h : We tx Y tl Γ (dTup (d := d)) m) : Iw tx Y (iTupB Y.K tl) Γ d (m >>= fun xs => .ok xs.l) := fun nb xk e F σ H s R q => h.k nb xk (k := fun xs => m = .ok xs) (fun xs e _ _ => e) e F σ H s _ fun v F1 H1 xs hm g1 ⟨a, us, e1, hq, r⟩ => by
  subst e1
  exact ⟨a, us, rfl, (hq.mono g1.fh).sq, fun hz => q _ F1 H1 us xs.l (fun H' => SqT Y.K H' a us) (by rw [hm]; rfl) (by rw [← r.len]; exact hz) g1 (fun H' sm => (hq.mono sm).sq) walk_tup r⟩
end
/-- the heap without an object -/
def less (H : Hp) (D : Addr) : Hp := fun a => if a = D then none else H a
theorem less_at (H : Hp) (D : Addr) : less H D D = none := if_pos rfl
theorem less_ne {H : Hp} {D a : Addr} (h : a ≠ D) : less H D a = H a := if_neg h
/-- the state without an object that is not the environment's -/
theorem State.less {C : GCtx} {e : En} {F : Hp} {σ : L2.St} {H : Hp} {Γ : List Cell} {D : Addr} (s : State (calm C) e F σ H Γ) (h0 : e.H0 D ≠ none) (hm : D ∉ e.M) (hf : F D = none) (ht : ∀ xs, H D ≠ some (.tup xs)) : ∃ M, State (calm C) ⟨F, G.less H D, M⟩ F σ (G.less H D) Γ := by
  obtain ⟨_, L, k, sl⟩ := s
  have hne : ∀ p ∈ L, p.1 ≠ D := fun p hp e1 => by
    rcases (k.ow p hp).2.2 with z | z
    · exact h0 (by rw [← e1]; exact z)
    · exact hm (by rw [← e1]; exact z)
  refine ⟨L.map Prod.fst, fun _ _ _ _ _ _ hk _ _ => hk, L, ⟨Same.refl _, fun _ _ _ h => h, fun _ h => h, fun a o h => ?_, fun _ _ h => h, fun a xs h => ?_, fun p hp => ⟨(k.ow p hp).1, ?_, .inr (List.mem_map.mpr ⟨p, hp, rfl⟩)⟩, k.nd⟩, sl⟩
  · have hne2 : a ≠ D := fun e1 => by rw [e1, hf] at h; cases h
    rw [less_ne hne2]
    exact k.fh a o h
  · by_cases e1 : a = D
    · rw [e1, less_at] at h; cases h
    · rw [less_ne e1] at h
      exact k.tp a xs h
  · rw [less_ne (hne p hp)]
    exact (k.ow p hp).2.1
theorem wipe_wipeB (σ0 : L2.St) (vs : List Nat) : wipe (wipe σ0 vs) vs = wipe σ0 vs := by
  have : ∀ (l : List Nat) (σ1 : L2.St), (∀ j ∈ l, (σ1[j]? = none ∨ σ1[j]? = some none)) → wipe σ1 l = σ1 := by
    intro l
    induction l with
    | nil => intro _ _; rfl
    | cons j l ih =>
      intro σ1 hj
      unfold wipe
      rw [ih σ1 fun m hm => hj m (List.mem_cons_of_mem _ hm)]
      apply List.ext_getElem?
      intro m
      rw [List.getElem?_set]
      by_cases hm : j = m
      · subst hm
        rcases hj j List.mem_cons_self with z | z
        · rw [z, if_pos rfl, if_neg (Nat.not_lt.mpr (List.getElem?_eq_none_iff.mp z))]
        · rw [z, if_pos rfl, if_pos (List.getElem?_eq_some_iff.mp z).1]
      · rw [if_neg hm]
  refine this vs _ fun j hj => ?_
  cases q : (wipe σ0 vs)[j]? with
  | none => exact .inl rfl
  | some o =>
    cases o with
    | none => exact .inr rfl
    | some y => exact absurd hj (wipe_some q).2
section
variable {Y : YC} {Γ : List Cell} {α β γ : Type} {d : Dat α} {d1 : Dat γ} {d2 : Dat β} {g g1 : TG} {tt tt1 : TT} {te : TE} {ti ti1 : TI} {vs vs1 : List Nat}
def Iwk (Y : YC) (ti : TI) (Γ : List Cell) {α : Type} (d : Dat α) (k : List α → Prop) : Prop := ∀ (e : En) (F : Hp) (σ : L2.St) (H : Hp), State Y e F σ H Γ → ∀ R : It → Hp → Prop,
  (∀ J F1 H1 us xs (Gd : Hp → Prop), k xs → xs.length ≤ PySem.sizeLine → Gr F H F1 H1 → (∀ H', Same F1 H' → Gd H') → Walk J us.length Gd (YAt us) → Reps d Y.g F1 us xs → R J H1) → ti σ H R
/-- what a comprehension with two fors asks -/
def CompB2 (Y : YC) (g : TG) (tt : TT) (ti1 : TI) (g1 : TG) (tt1 : TT) (te : TE) (vs1 : List Nat) {α β γ : Type} (d : Dat α) (d1 : Dat γ) (d2 : Dat β) (kx : List β → Prop) (xs : List α) (Γ : List Cell) : Prop :=
  ∃ I : Nat → List β → Prop, I 0 [] ∧ (∀ i x ys, xs[i]? = some x → I i ys → A Y g Γ d x fun Γ2 => T Y tt Γ2 fun b => (b = true → Iwk Y ti1 Γ2 d1 fun zs => ∃ I1 : Nat → List β → Prop, I1 0 ys ∧
    (∀ j z ws, zs[j]? = some z → I1 j ws → A Y g1 (wipeC Γ2 vs1) d1 z fun Γ3 => T Y tt1 Γ3 fun b => (b = true → W Y te Γ3 d2 fun w => ws.length < PySem.sizeLine ∧ I1 (j + 1) (ws ++ [w])) ∧ (b = false → I1 (j + 1) ws)) ∧ ∀ ws, I1 zs.length ws → I (i + 1) ws) ∧ (b = false → I (i + 1) ys)) ∧ ∀ ys, I xs.length ys → kx ys
theorem comp_turn2 {e : En} {F1 : Hp} {σ : L2.St} {H1 : Hp} {D : Addr} {x : α} {v : V} {i : Nat} {I : Nat → List β → Prop} (s1 : State Y e F1 σ H1 Γ) (hD : H1 D = none) (hT : Tg g vs) (hT1 : Tg g1 vs1)
    (hs : ∀ ys, I i ys → A (calm Y.g) g (wipeC Γ vs) d x fun Γ2 => T (calm Y.g) tt Γ2 fun b => (b = true → Iwk (calm Y.g) ti1 Γ2 d1 fun zs => ∃ I1 : Nat → List β → Prop, I1 0 ys ∧
      (∀ j z ws, zs[j]? = some z → I1 j ws → A (calm Y.g) g1 (wipeC Γ2 vs1) d1 z fun Γ3 => T (calm Y.g) tt1 Γ3 fun b => (b = true → W (calm Y.g) te Γ3 d2 fun w => ws.length < PySem.sizeLine ∧ I1 (j + 1) (ws ++ [w])) ∧ (b = false → I1 (j + 1) ws)) ∧ ∀ ws, I1 zs.length ws → I (i + 1) ws) ∧ (b = false → I (i + 1) ys))
    (rx : ∀ F', Same F1 F' → d.rep Y.g F' v x) {H : Hp} (h : ∃ F' acc ys, Wk ⟨F1, H1, []⟩ F' [(D, .lst acc)] H ∧ Reps d2 Y.g F' acc ys ∧ I i ys) :
    g v (wipe σ vs) H fun σ2 H2 => wipe σ2 vs = wipe σ vs ∧ tt σ2 H2 fun b H3 =>
      if b = true then ti1 σ2 H3 fun J1 H4 => ∃ W1 : Nat → Nat → Hp → Prop, (∃ m, W1 0 m H4) ∧ ∀ j k H, W1 j k H →
        (J1.stop j H ∧ ∃ F' acc ys, Wk ⟨F1, H1, []⟩ F' [(D, .lst acc)] H ∧ Reps d2 Y.g F' acc ys ∧ I (i + 1) ys) ∨ (J1.go j H ∧ ∃ Nx1 : Hp → Prop, (∀ H', Nx1 H' → ∃ k', k' < k ∧ W1 (j + 1) k' H') ∧ ∀ x H', J1.yld j H x H' → g1 x (wipe σ2 vs1) H' fun σ3 H5 => wipe σ3 vs1 = wipe σ2 vs1 ∧ tt1 σ3 H5 fun b H6 =>
          if b = true then te σ3 H6 fun y H7 => ∃ acc, H7 D = some (.lst acc) ∧ acc.length < PySem.sizeLine ∧ Nx1 (upd H7 D (.lst (acc ++ [y]))) else Nx1 H6)
      else ∃ F' acc ys, Wk ⟨F1, H1, []⟩ F' [(D, .lst acc)] H3 ∧ Reps d2 Y.g F' acc ys ∧ I (i + 1) ys := by
  obtain ⟨F', acc, ys, kw, r, hi⟩ := h
  obtain ⟨_, L1, k1, sl1⟩ := s1
  have hDL : ∀ p ∈ L1, p.1 ≠ D := fun p hp e1 => by
    have := (k1.ow p hp).2.1
    rw [e1, hD] at this
    cases this
  have k2 := k1.trans kw
  have k3 : Wk e F' L1 H := k2.sub (fun p hp => List.mem_append_right _ hp) k1.nd
  have hM : D ∉ L1.map Prod.fst := fun z => by
    obtain ⟨p, hp, e2⟩ := List.mem_map.mp z
    exact hDL p hp e2
  have st : State (calm Y.g) ⟨F', H, L1.map Prod.fst⟩ F' σ H Γ := ⟨fun _ _ _ _ _ _ hk _ _ => hk, L1, ⟨Same.refl _, fun _ _ _ h => h, fun _ h => h, k3.fh, fun _ _ h => h, k3.tp, fun p hp => ⟨(k3.ow p hp).1, (k3.ow p hp).2.1, .inr (List.mem_map.mpr ⟨p, hp, rfl⟩)⟩, k3.nd⟩, sl1.mono kw.ff⟩
  have hHD : H D = some (.lst acc) := (kw.ow (D, .lst acc) (by simp)).2.1
  have key := hs ys hi _ F' _ H v (st.wipe vs) (rx F' kw.ff) (fun σ2 H2 => tt σ2 H2 fun b H3 =>
      if b = true then ti1 σ2 H3 fun J1 H4 => ∃ W1 : Nat → Nat → Hp → Prop, (∃ m, W1 0 m H4) ∧ ∀ j k H, W1 j k H →
        (J1.stop j H ∧ ∃ F' acc ys, Wk ⟨F1, H1, []⟩ F' [(D, .lst acc)] H ∧ Reps d2 Y.g F' acc ys ∧ I (i + 1) ys) ∨ (J1.go j H ∧ ∃ Nx1 : Hp → Prop, (∀ H', Nx1 H' → ∃ k', k' < k ∧ W1 (j + 1) k' H') ∧ ∀ x H', J1.yld j H x H' → g1 x (wipe σ2 vs1) H' fun σ3 H5 => wipe σ3 vs1 = wipe σ2 vs1 ∧ tt1 σ3 H5 fun b H6 =>
          if b = true then te σ3 H6 fun y H7 => ∃ acc, H7 D = some (.lst acc) ∧ acc.length < PySem.sizeLine ∧ Nx1 (upd H7 D (.lst (acc ++ [y]))) else Nx1 H6)
      else ∃ F' acc ys, Wk ⟨F1, H1, []⟩ F' [(D, .lst acc)] H3 ∧ Reps d2 Y.g F' acc ys ∧ I (i + 1) ys) fun σ2 Γ2 h2 st2 => by
    refine h2 _ F' σ2 H st2 _ fun b F3 H3 kb g3 => ?_
    cases b with
    | false => exact ⟨F3, acc, ys, kw.trans0 g3, r.mono g3.ff, kb.2 rfl⟩
    | true =>
      refine kb.1 rfl _ F3 σ2 H3 (st2.grow g3) _ fun J1 F4 H4 us1 zs Gd1 ⟨I1, h10, h1s, h1d⟩ hz1 g4 hGd1 w1 r1 => ?_
      have st4 := (st2.grow g3).grow g4
      have kw4 := (kw.trans0 g3).trans0 g4
      have hF4 : F4 D = none := (kw4.ow (D, .lst acc) (by simp)).1
      have hH4 : H4 D = some (.lst acc) := (kw4.ow (D, .lst acc) (by simp)).2.1
      obtain ⟨M5, st5⟩ := st4.less (D := D) (by show H D ≠ none; rw [hHD]; exact fun z => nomatch z) hM hF4 (fun xs z => by rw [hH4] at z; cases z)
      have kwA : Wk ⟨F4, G.less H4 D, []⟩ F4 [(D, .lst acc)] H4 := ⟨Same.refl _, fun a o _ h => by
        have h : G.less H4 D a = some o := h
        by_cases e1 : a = D
        · rw [e1, less_at] at h; cases h
        · rwa [less_ne e1] at h, fun a h => by
        have h : G.less H4 D a ≠ none := h
        by_cases e1 : a = D
        · rw [e1, hH4]; exact fun z => nomatch z
        · rwa [less_ne e1] at h, kw4.fh, fun _ _ h => h, kw4.tp, fun p hp => by
        rw [List.mem_singleton] at hp
        subst hp
        exact ⟨hF4, hH4, .inl (less_at H4 D)⟩, by simp⟩
      have kwB : Wk ⟨F1, H1, []⟩ F4 [] (G.less H4 D) := ⟨kw4.ff, fun a o hm h => by
        have h1 : H1 a = some o := h
        have e1 : a ≠ D := fun z => by rw [z, hD] at h1; cases h1
        rw [less_ne e1]
        exact kw4.hh a o hm h, fun a h => by
        have e1 : a ≠ D := fun z => h (by rw [z]; exact hD)
        rw [less_ne e1]
        exact kw4.th a h, fun a o h => by
        have e1 : a ≠ D := fun z => by rw [z, hF4] at h; cases h
        rw [less_ne e1]
        exact kw4.fh a o h, kw4.nw, fun a xs h => by
        have e1 : a ≠ D := fun z => by rw [z, less_at] at h; cases h
        rw [less_ne e1] at h
        exact kw4.tp a xs h, fun p hp => (nomatch hp), List.nodup_nil⟩
      refine ⟨fun j k H => k = us1.length - j ∧ j ≤ us1.length ∧ ∃ F' acc ys, Wk ⟨F4, G.less H4 D, []⟩ F' [(D, .lst acc)] H ∧ Reps d2 Y.g F' acc ys ∧ I1 j ys, ⟨us1.length, by simp, Nat.zero_le _, F4, acc, ys, kwA, r.mono (g3.ff.trans g4.ff), h10⟩, ?_⟩
      rintro j k H5 ⟨rfl, hj, p1⟩
      have hG1 : Gd1 H5 := by
        obtain ⟨F5, acc5, ys5, kw5, _⟩ := id p1
        exact hGd1 H5 (kw5.ff.trans kw5.fh)
      by_cases hlt : j < us1.length
      · refine .inr ⟨w1.goes j H5 hlt hG1, fun H => ∃ F' acc ys, Wk ⟨F4, G.less H4 D, []⟩ F' [(D, .lst acc)] H ∧ Reps d2 Y.g F' acc ys ∧ I1 (j + 1) ys, fun H' p' => ⟨us1.length - (j + 1), by omega, rfl, hlt, p'⟩, fun z H' y => ?_⟩
        obtain ⟨e1, hz⟩ := w1.yields j H5 z H' hlt hG1 y
        subst e1
        obtain ⟨z', hz', rz⟩ := r1.getV hz
        exact comp_turn (Y := calm Y.g) st5 hT1 (h1s j z' · hz') (fun F' sm => d1.mono sm rz) p1
      · have ej : j = us1.length := by omega
        subst ej
        refine .inl ⟨w1.stops H5 hG1, ?_⟩
        obtain ⟨F5, acc5, ys5, kw5, r5, h5⟩ := p1
        rw [r1.len] at h5
        exact ⟨F5, acc5, ys5, by simpa using kwB.trans kw5, r5, h1d ys5 h5⟩
  have key2 := hT v _ H _ key
  rw [wipe_wipeB] at key2
  exact key2
theorem o_lc2 {kx : List β → Prop} (hT : Tg g vs) (hT1 : Tg g1 vs1) (h : Iwk Y ti Γ d fun xs => CompB2 (calm Y.g) g tt ti1 g1 tt1 te vs1 d d1 d2 kx xs (wipeC Γ vs)) : O Y (tLc2 ti g tt ti1 g1 tt1 te vs vs1) Γ (oList (d := d2)) kx := fun e F σ H s Q q => h e F σ H s _ fun J F1 H1 us xs Gd ⟨I, h0, hs, hd⟩ hz gg hGd w r D hD => by
  have kw0 : Wk ⟨F1, H1, []⟩ F1 [(D, .lst [])] (upd H1 D (.lst [])) := gg.base.own hD (fun _ z => by cases z)
  refine ⟨fun i m H => m = us.length - i ∧ i ≤ us.length ∧ ∃ F' acc ys, Wk ⟨F1, H1, []⟩ F' [(D, .lst acc)] H ∧ Reps d2 Y.g F' acc ys ∧ I i ys, ⟨us.length, by simp, Nat.zero_le _, F1, [], [], kw0, trivial, h0⟩, ?_⟩
  rintro i m H' ⟨rfl, hi, p⟩
  have hG : Gd H' := by
    obtain ⟨F', acc, ys, kw, _⟩ := id p
    exact hGd H' (kw.ff.trans kw.fh)
  by_cases hlt : i < us.length
  · refine .inr ⟨w.goes i H' hlt hG, fun H => ∃ F' acc ys, Wk ⟨F1, H1, []⟩ F' [(D, .lst acc)] H ∧ Reps d2 Y.g F' acc ys ∧ I (i + 1) ys, fun H'' p' => ⟨us.length - (i + 1), by omega, rfl, hlt, p'⟩, fun v H'' y => ?_⟩
    obtain ⟨e1, hv⟩ := w.yields i H' v H'' hlt hG y
    subst e1
    obtain ⟨x, hx, rx⟩ := r.getV hv
    exact comp_turn2 (s.grow gg) hD hT hT1 (hs i x · hx) (fun F' sm => d.mono sm rx) p
  · have ei : i = us.length := by omega
    subst ei
    refine .inl ⟨w.stops H' hG, ?_⟩
    obtain ⟨F', acc, ys, kw, ra, hI⟩ := p
    rw [r.len] at hI
    exact q _ F' H' _ ys (hd ys hI) (by simpa using gg.trans kw) ⟨D, acc, rfl, rfl, ra⟩
end
namespace M
variable {α β γ : Type}
/-- [f x z for x in xs if p x for z in m1 x if p1 x z] -/
def comp2 (p : α → M Bool) (m1 : α → M (List γ)) (p1 : α → γ → M Bool) (f : α → γ → M β) : List α → M (List β)
  | [] => .ok []
  | x :: xs => (calm (p x) >>= fun b => if b then calm (m1 x) >>= fun zs => comp (p1 x) (f x) zs else .ok []) >>= fun ys => comp2 p m1 p1 f xs >>= fun zs => .ok (ys ++ zs)
def lc2 (p : α → M Bool) (m1 : α → M (List γ)) (p1 : α → γ → M Bool) (f : α → γ → M β) (xs : List α) : M (List β) := comp2 p m1 p1 f xs >>= fun ys => asrt (ys.length ≤ PySem.sizeLine) (.ok ys)
theorem comp_tot (p : α → M Bool) (f : α → M β) : ∀ xs : List α, (comp p f xs).nb → ∃ ys, comp p f xs = .ok ys
  | [], _ => ⟨[], rfl⟩
  | x :: xs, h => by
    simp only [comp] at h ⊢
    obtain ⟨b, hb⟩ := calm_nb (nb1 h)
    rw [hb] at h ⊢
    simp only [calm_of_ok, ok_bind] at h ⊢
    cases b with
    | true =>
      rw [if_pos rfl] at h ⊢
      obtain ⟨y, hy⟩ := calm_nb (nb1 h)
      rw [hy] at h ⊢
      simp only [calm_of_ok, ok_bind] at h ⊢
      obtain ⟨ys, e⟩ := comp_tot p f xs (nb1 h)
      rw [e]
      exact ⟨_, rfl⟩
    | false =>
      rw [if_neg (by simp)] at h ⊢
      exact comp_tot p f xs h
/-- what one item of the first for gives -/
def part (p : α → M Bool) (m1 : α → M (List γ)) (p1 : α → γ → M Bool) (f : α → γ → M β) (x : α) : M (List β) := calm (p x) >>= fun b => if b then calm (m1 x) >>= fun zs => comp (p1 x) (f x) zs else .ok []
theorem part_tot (p : α → M Bool) (m1 : α → M (List γ)) (p1 : α → γ → M Bool) (f : α → γ → M β) (x : α) (h : (part p m1 p1 f x).nb) : (p x = .ok false ∧ part p m1 p1 f x = .ok []) ∨ ∃ zs ys, p x = .ok true ∧ m1 x = .ok zs ∧ comp (p1 x) (f x) zs = .ok ys ∧ part p m1 p1 f x = .ok ys := by
  unfold part at h ⊢
  obtain ⟨b, hb⟩ := calm_nb (nb1 h)
  rw [hb] at h ⊢
  simp only [calm_of_ok, ok_bind] at h ⊢
  cases b with
  | false => exact .inl ⟨by first | rfl | trivial, rfl⟩
  | true =>
    rw [if_pos rfl] at h ⊢
    obtain ⟨zs, hz⟩ := calm_nb (nb1 h)
    rw [hz] at h ⊢
    simp only [calm_of_ok, ok_bind] at h ⊢
    obtain ⟨ys, e⟩ := comp_tot _ _ zs h
    exact .inr ⟨zs, ys, by first | rfl | trivial, by first | rfl | trivial, e, e⟩
theorem comp2_cons (p : α → M Bool) (m1 : α → M (List γ)) (p1 : α → γ → M Bool) (f : α → γ → M β) (x : α) (xs : List α) : comp2 p m1 p1 f (x :: xs) = (part p m1 p1 f x >>= fun ys => comp2 p m1 p1 f xs >>= fun zs => .ok (ys ++ zs)) := rfl
theorem comp2_tot (p : α → M Bool) (m1 : α → M (List γ)) (p1 : α → γ → M Bool) (f : α → γ → M β) : ∀ xs : List α, (comp2 p m1 p1 f xs).nb → ∃ ys, comp2 p m1 p1 f xs = .ok ys
  | [], _ => ⟨[], rfl⟩
  | x :: xs, h => by
    rw [comp2_cons] at h ⊢
    rcases part_tot p m1 p1 f x (nb1 h) with ⟨_, e⟩ | ⟨_, _, _, _, _, e⟩ <;>
    · rw [e] at h ⊢
      simp only [ok_bind] at h ⊢
      obtain ⟨ys, e2⟩ := comp2_tot p m1 p1 f xs (nb1 h)
      rw [e2]
      exact ⟨_, rfl⟩
theorem comp2_app (p : α → M Bool) (m1 : α → M (List γ)) (p1 : α → γ → M Bool) (f : α → γ → M β) : ∀ xs ys : List α, comp2 p m1 p1 f (xs ++ ys) = (comp2 p m1 p1 f xs >>= fun a => comp2 p m1 p1 f ys >>= fun b => .ok (a ++ b))
  | [], ys => by
    show _ = (M.ok [] >>= _)
    simp only [ok_bind, List.nil_append]
    cases comp2 p m1 p1 f ys <;> rfl
  | x :: xs, ys => by
    rw [List.cons_append]
    simp only [comp2, comp2_app p m1 p1 f xs ys, assoc, ok_bind, List.append_assoc]
end M
section
variable {tx : XC → Addr} {Y : YC} {Γ : List Cell} {α β γ : Type} {d : Dat α} {d1 : Dat γ} {d2 : Dat β} {g g1 : TG} {tt tt1 : TT} {te : TE} {ti ti1 : TI} {vs vs1 : List Nat}
theorem oe_lc2 {m0 : M (List α)} {p : α → M Bool} {m1 : α → M (List γ)} {p1 : α → γ → M Bool} {f : α → γ → M β} (hT : Tg g vs ∧ MoG g) (hT1 : Tg g1 vs1 ∧ MoG g1) (h : Iw tx Y ti Γ d m0)
    (hb : ∀ x, A (calm Y.g) g (wipeC Γ vs) d x fun Γ2 => Te tx (calm Y.g) tt Γ2 (p x) ∧ Iw tx (calm Y.g) ti1 Γ2 d1 (m1 x) ∧ ∀ z, A (calm Y.g) g1 (wipeC Γ2 vs1) d1 z fun Γ3 => Te tx (calm Y.g) tt1 Γ3 (p1 x z) ∧ We tx (calm Y.g) te Γ3 d2 (f x z)) :
    Oe tx Y (tLc2 ti g tt ti1 g1 tt1 te vs vs1) Γ (oList (d := d2)) (m0 >>= M.lc2 p m1 p1 f) := fun nb xk => o_lc2 (d1 := d1) hT.1 hT1.1 fun e F σ H s R q => h (M.nb1 nb) xk.l e F σ H s R fun J F1 H1 us xs Gd em hz gg hG w r => q J F1 H1 us xs Gd (by
  have nb2 : (M.lc2 p m1 p1 f xs).nb := M.nb2 nb em
  obtain ⟨tot, et⟩ := M.comp2_tot p m1 p1 f xs (M.nb1 nb2)
  have htl : tot.length ≤ PySem.sizeLine := by
    unfold M.lc2 at nb2
    rw [et] at nb2
    exact M.asrt_nb nb2
  have efin : (m0 >>= M.lc2 p m1 p1 f) = .ok tot := by
    rw [em]
    show M.lc2 p m1 p1 f xs = _
    unfold M.lc2
    rw [et]
    exact M.asrt_pos htl
  refine ⟨fun i ys => M.comp2 p m1 p1 f (xs.take i) = .ok ys, rfl, fun i x ys hx hi => ?_, fun ys hi => ?_⟩
  · have hlt : i < xs.length := (List.getElem?_eq_some_iff.mp hx).1
    have htk : xs.take (i + 1) = xs.take i ++ [x] := by rw [List.take_add_one, hx]; rfl
    have hdr : xs = xs.take i ++ (x :: xs.drop (i + 1)) := by
      have h1 : xs = xs.take (i + 1) ++ xs.drop (i + 1) := (List.take_append_drop _ _).symm
      rw [htk, List.append_assoc] at h1
      exact h1
    have e0 : M.comp2 p m1 p1 f xs = (M.part p m1 p1 f x >>= fun a => M.comp2 p m1 p1 f (xs.drop (i + 1)) >>= fun b => .ok (ys ++ (a ++ b))) := by
      conv => lhs; rw [hdr]
      rw [M.comp2_app, hi, M.comp2_cons]
      simp only [M.assoc, M.ok_bind]
    have e1 : M.comp2 p m1 p1 f (xs.take (i + 1)) = (M.part p m1 p1 f x >>= fun a => .ok (ys ++ a)) := by
      rw [htk, M.comp2_app, hi, M.comp2_cons]
      simp only [M.assoc, M.ok_bind, M.comp2, List.append_nil]
    have nbp : (M.part p m1 p1 f x).nb := fun z => by rw [z] at e0; rw [e0] at et; cases et
    have hpt := M.part_tot p m1 p1 f x nbp
    intro e2 F2 σ2 H2 v s2 r2 Q q2
    refine hb x e2 F2 σ2 H2 v s2 r2 Q fun σ' Γ' ⟨ht, hw, ha⟩ s' => q2 σ' Γ' ?_ s'
    have hpb : ∃ b, p x = .ok b := by
      rcases hpt with ⟨e3, _⟩ | ⟨_, _, e3, _⟩ <;> exact ⟨_, e3⟩
    obtain ⟨b, hb1⟩ := hpb
    refine t_mono (ht (by rw [hb1]; exact fun z => nomatch z) (by rw [hb1]; exact XkM.ok)) fun b' eb => ⟨fun z => ?_, fun z => ?_⟩
    · rw [hb1] at eb
      cases eb
      subst z
      rcases hpt with ⟨e3, _⟩ | ⟨zs, as, _, e4, e5, e6⟩
      · rw [hb1] at e3; cases e3
      rw [e6] at e0 e1
      simp only [M.ok_bind] at e0 e1
      have hpre : ∃ rest, tot = ys ++ (as ++ rest) := by
        rw [et] at e0
        cases hc : M.comp2 p m1 p1 f (xs.drop (i + 1)) with
        | ok rest => rw [hc] at e0; cases e0; exact ⟨rest, rfl⟩
        | bad => rw [hc] at e0; cases e0
        | exc z => rw [hc] at e0; cases e0
      intro e3 F3 σ3 H3 s3 R3 q3
      refine hw (by rw [e4]; exact fun z => nomatch z) (by rw [e4]; exact XkM.ok) e3 F3 σ3 H3 s3 R3 fun J1 F4 H4 us1 zs' Gd1 ez hz1 g4 hG1 w1 r1 => ?_
      rw [e4] at ez
      cases ez
      refine q3 J1 F4 H4 us1 zs Gd1 ⟨fun j ws => ∃ a, M.comp (p1 x) (f x) (zs.take j) = .ok a ∧ ws = ys ++ a, ⟨[], rfl, (List.append_nil _).symm⟩, fun j z ws hzj ⟨a, ea, ew⟩ => ?_, fun ws ⟨a, ea, ew⟩ => ?_⟩ hz1 g4 hG1 w1 r1
      · have hj : j < zs.length := (List.getElem?_eq_some_iff.mp hzj).1
        have hztk : zs.take (j + 1) = zs.take j ++ [z] := by rw [List.take_add_one, hzj]; rfl
        have e7 : M.comp (p1 x) (f x) (zs.take (j + 1)) = (M.comp (p1 x) (f x) [z] >>= fun b => .ok (a ++ b)) := by rw [hztk, M.comp_app, ea]; rfl
        have e8 : (M.comp (p1 x) (f x) [z] >>= fun b => M.comp (p1 x) (f x) (zs.drop (j + 1)) >>= fun c => .ok ((a ++ b) ++ c)) = .ok as := by
          rw [← e5]
          conv => rhs; rw [show zs = zs.take (j + 1) ++ zs.drop (j + 1) from (List.take_append_drop _ _).symm]
          rw [M.comp_app, e7]
          simp only [M.assoc, M.ok_bind]
        have nb3 : (M.comp (p1 x) (f x) [z]).nb := fun q => by rw [q] at e8; cases e8
        have hlen : ∀ bz, M.comp (p1 x) (f x) [z] = .ok bz → ys.length + a.length + bz.length ≤ PySem.sizeLine := fun bz ebz => by
          rw [ebz] at e8
          simp only [M.ok_bind] at e8
          obtain ⟨rest, er⟩ := hpre
          cases hc : M.comp (p1 x) (f x) (zs.drop (j + 1)) with
          | ok c =>
            rw [hc] at e8
            cases e8
            rw [er] at htl
            simp only [List.length_append] at htl
            omega
          | bad => rw [hc] at e8; cases e8
          | exc w => rw [hc] at e8; cases e8
        intro e9 F9 σ9 H9 v9 s9 r9 Q9 q9
        refine ha z e9 F9 σ9 H9 v9 s9 r9 Q9 fun σ10 Γ3 ⟨ht3, hw3⟩ s10 => q9 σ10 Γ3 ?_ s10
        simp only [M.comp] at nb3 e7 hlen
        obtain ⟨b2, hb2⟩ := M.calm_nb (M.nb1 nb3)
        rw [hb2] at nb3 e7 hlen
        simp only [M.calm_of_ok, M.ok_bind] at nb3 e7 hlen
        refine t_mono (ht3 (by rw [hb2]; exact fun z => nomatch z) (by rw [hb2]; exact XkM.ok)) fun b' eb => ⟨fun zz => ?_, fun zz => ?_⟩
        · rw [hb2] at eb
          cases eb
          subst zz
          rw [if_pos rfl] at nb3 e7 hlen
          obtain ⟨y, hy⟩ := M.calm_nb (M.nb1 nb3)
          rw [hy] at e7 hlen
          simp only [M.calm_of_ok, M.ok_bind] at e7 hlen
          refine w_mono (hw3 (by rw [hy]; exact fun z => nomatch z) (by rw [hy]; exact XkM.ok)) fun y' ey => ?_
          rw [hy] at ey
          cases ey
          have hl2 := hlen [y] rfl
          refine ⟨?_, a ++ [y], e7, by rw [ew, List.append_assoc]⟩
          rw [ew, List.length_append]
          simp only [List.length_singleton] at hl2
          omega
        · rw [hb2] at eb
          cases eb
          subst zz
          rw [if_neg (by simp)] at e7
          exact ⟨a, by rw [e7]; simp, ew⟩
      · rw [List.take_length, e5] at ea
        cases ea
        rw [e1, ew]
    · rw [hb1] at eb
      cases eb
      subst z
      rcases hpt with ⟨_, e6⟩ | ⟨_, _, e3, _⟩
      · rw [e1, e6]
        simp
      · rw [hb1] at e3; cases e3
  · have hi : M.comp2 p m1 p1 f (xs.take xs.length) = .ok ys := hi
    rw [List.take_length, et] at hi
    cases hi
    exact efin) hz gg hG w r
end
end G
end

/-! M23: == and != by an own __eq__. -/
namespace G
open PySem PySem.Spec PyProof.Rows L2 PySem.W
section
variable {X : Cx} {CXt : CXT} {k : Nat} {f C : Addr} {fd : FuncData} {ps : List Str} {sp : Sp}
/-- what stands at the right: an instance of the same class or a tuple -/
def EqArg (K : Frag) (C : Addr) (y : V) (H : Hp) : Prop := ∃ b, y = .ref b ∧ ((∃ dy gs, H b = some (.ins C dy gs)) ∨ (notFirst K C (.type "tuple") = true ∧ ∃ ys, TpA K H b ys))
theorem EqArg.mono {K : Frag} {C : Addr} {y : V} {F H : Hp} (h : EqArg K C y F) (s : Same F H) : EqArg K C y H := let ⟨b, e, h⟩ := h; ⟨b, e, h.imp (fun ⟨dy, gs, h⟩ => ⟨dy, gs, s _ _ h⟩) fun ⟨n, ys, h⟩ => ⟨n, ys, h.mono s⟩⟩
end
section
variable {X : Cx} {CXt : CXT} {k : Nat} {f C : Addr} {fd : FuncData} {ps : List Str} {sp : Sp}
end
section
variable {Y : YC} {Γ : List Cell} {ta tb : TE} {α β : Type} {d : Dat α} {d2 : Dat β} {C0 : Addr} {ns : List Str} {sp : Sp}
end
section
variable {tx : XC → Addr} {Y : YC} {Γ : List Cell} {t1 t2 : TE} {α1 α2 : Type} {d1 : Dat α1} {d2 : Dat α2} {m1 : M α1} {m2 : M α2} {C0 : Addr} {ns : List Str} {sp : Sp}
end
end G

/-! M24: an instance walked by its own __iter__ (iter of a tuple it holds). -/
namespace G
open PySem PySem.Spec PyProof.Rows L2 PySem.W
section
variable {X : Cx}
end
section
variable {X : Cx} {CXt : CXT} {k : Nat} {g C : Addr} {fd : FuncData} {ps : List Str} {f : Str} {e tg : Expr} {te : TE}
end
section
variable {Y : YC} {Γ : List Cell} {te : TE} {α β : Type} {d : Dat α} {d2 : Dat β} {C0 : Addr} {f : Str}
variable {tx : XC → Addr}
end
end G

noncomputable section
/-! M25: mixed data: an instance or plain data; tuples of them. -/
namespace G
open PySem PySem.Spec PyProof.Rows L2 PySem.W
@[reducible] def Mix (β : Type) := Sum β PyData
@[reducible] def dMix {β : Type} (d : Dat β) : Dat (Mix β) := ⟨fun C F v x => match x with
  | .inl y => d.rep C F v y
  | .inr u => DU C F u v, fun {C F F' v x} s h => match x, h with
  | .inl _, h => d.mono s h
  | .inr _, h => DU.mono s _ _ h⟩
section
variable {α β γ α2 β2 : Type} {d : Dat α} {d2 : Dat β} {d3 : Dat γ} {e1 : Dat α2} {e2 : Dat β2}
end
section
variable {tx : XC → Addr} {Y : YC} {Γ : List Cell} {te : TE} {α β : Type} {d : Dat α} {d2 : Dat β}
end
end G
end

noncomputable section
/-! M26: xs += ys (lists), xs.reverse(). -/
namespace G
open PySem PySem.Spec PyProof.Rows L2 PySem.W
section
variable {Y : YC} {Γ : List Cell} {te : TE} {α : Type} {d : Dat α} {k : Ks}
end
section
variable {tx : XC → Addr} {Y : YC} {Γ : List Cell} {te : TE} {α τ : Type} {d : Dat α} {K : Kt τ} {rest : TS} {js : List Nat}
def M.ext {α : Type} (xs : List α) (m : M (List α)) : M (List α) := m >>= fun ys => M.asrt (xs.length + ys.length ≤ PySem.sizeLine) (.ok (xs ++ ys))
end
end G
end

noncomputable section
/-! M27: xs.count(b) of bools. -/
namespace G
open PySem PySem.Spec PyProof.Rows L2 PySem.W
section
variable {X : Cx}
end
section
variable {tx : XC → Addr} {Y : YC} {Γ : List Cell} {ta tb : TE}
end
section
variable {α β γ δ : Type} {d : Dat α} {d2 : Dat β} {d3 : Dat γ} {d4 : Dat δ}
end
section
variable {tx : XC → Addr} {Y : YC} {Γ : List Cell} {ta : TE}
theorem reps_int {C : GCtx} {F : Hp} : ∀ xs : List Int, Reps dInt C F (xs.map V.int) xs
  | [] => trivial
  | x :: xs => ⟨rfl, reps_int xs⟩
theorem iw_range {m : M Int} (h : Re tx Y ta Γ dInt m) : Iw tx Y (iRng1 (tCons ta tNil)) Γ dInt (m >>= M.range) := fun nb xk e F σ H s R q =>
  (h.k nb xk (k := fun n => m = .ok n ∧ (-(2 ^ 62) ≤ n ∧ n ≤ PySem.sizeLine)) fun n en nb2 _ => ⟨en, M.asrt_nb nb2⟩) e F σ H s _ fun v F1 H1 n ⟨en, hp⟩ g1 r1 => by
    cases (show v = .int n from r1)
    refine ⟨n, rfl, hp.1, Int.lt_of_le_of_lt hp.2 (by decide), ?_⟩
    refine q _ F1 H1 ((rngL 0 n.toNat).map V.int) (rngL 0 n.toNat) (fun _ => True) (by rw [en]; exact M.asrt_pos hp) (by rw [rngL_len]; have := hp.2; omega) g1 (fun _ _ => trivial) ?_ (reps_int _)
    rw [List.length_map, rngL_len]
    refine ⟨fun _ _ hi _ => hi, fun _ _ => Nat.le_refl _, fun i H x H' hi _ y => ⟨y.1, ?_⟩⟩
    have hx : x = .int (0 + i) := y.2
    rw [hx, List.getElem?_map, ← rng_get 0 n.toNat i]
    unfold rng
    rw [if_pos hi]
    rfl
end
end G
end

noncomputable section
/-! M28: defs that change two of their arguments. -/
namespace G
open PySem PySem.Spec PyProof.Rows L2 PySem.W
theorem Wk.perm2 {e : En} {F H : Hp} {L L' : LO} (a : Wk e F L H) (p : L.Perm L') : Wk e F L' H :=
  a.sub (fun _ h => p.mem_iff.mpr h) ((p.map Prod.fst).nodup_iff.mp a.nd)
section
variable {tx : XC → Addr} {Y : YC} {Γ : List Cell} {te : TE} {tr tl : TA} {α1 α2 β τ σ : Type} {d1 : Dat α1} {d2 : Dat α2} {rest : TS} {js : List Nat} {K : Kt τ}
theorem set_set_ne {γ : Type _} {xs : List γ} {i j : Nat} {a b : γ} (h : i ≠ j) : (xs.set i a).set j b = (xs.set j b).set i a := List.set_comm _ _ h
/-! ### the body of such a def -/
end
end G
end

noncomputable section
/-! M29: class methods: C.m(..) and cls(..) within. -/
namespace G
open PySem PySem.Spec PyProof.Rows L2 PySem.W ClX
/-- C.m is a class method: its record at p, its def at g -/
structure CMetE (K : Frag) (C : Addr) (mc : Value) (m : Str) (p g : Addr) : Prop where
  cr : CRead K C mc
  cm : CMet K C mc m p g
def tCMethE (C : Addr) (sp : Sp) (E : L2.St → XK) (ta : TE) (t : TA) : TE := fun σ H Q => ta σ H fun x H1 => x = .ref C ∧ t σ H1 fun vs H2 => sp (.ref C :: vs) H2 Q (E σ)
def tMakeV (i : Nat) (C : Addr) (sp : Sp) (E : L2.St → XK) (t : TA) : TE := fun σ H Q => σ[i]? = some (some (.ref C)) ∧ tMakeS C sp E t σ H Q
section
variable {X : Cx} {CXt : CXT} {k i : Nat} {C p g f : Addr} {mc : Value} {fd : FuncData} {ps : List Str} {sp : Sp} {E : L2.St → XK} {o e : Expr} {es : List Expr} {m x : Str} {pos apos np : Pos} {ta : TE} {t : TA} {pl : Sem Bool}
theorem run_cmS {pins : List (Addr × Obj)} {σ : L2.St} {H : Hp} {s : Shared} {Q : VK} {us : List Value} {vs : List V} {q : Addr} (F : FnOk X.prog X.w X.K X.mg X.base CXt k g fd ps sp) (hr : Room k X.A) (hb : Binds X.K fd ps []) (hx : PassesAt CXt X σ (E σ))
    (I : Inv X ((q, methodObj (.ref g) (.ref C)) :: pins) σ H s) (r : Vals vs us) (h : sp (.ref C :: vs) H Q (E σ)) : wpAny (model X.prog X.w) X.A (call (.ref q) us) (EP X pins σ Q) X.xe s := by
  have r2 : Vals (V.ref C :: vs) (Value.ref C :: us) := .cons rfl r
  have hl : (Value.ref C :: us).length = ps.length := by rw [← r2.length]; exact F.len _ _ _ _ h
  have b := hb s (Value.ref C :: us) I.kIn (by rw [List.append_nil]; exact hl)
  rw [List.append_nil] at b
  have z : wpAny (model X.prog X.w) X.A (call (.ref q) us) (EP X ((q, methodObj (.ref g) (.ref C)) :: pins) σ Q) X.xe s := by
    refine wpAny_call (method_call (pin_at I) (codeAny_mono (F.run X.A X.stack s H ⟨Value.ref C :: us, []⟩ (Value.ref C :: us) (V.ref C :: vs) Q (E σ) hr I.env0 b r2 h) fun r s' hq => ?_))
    cases r with
    | error e => exact hx _ H s e s' I hq
    | ok fl =>
      cases fl with
      | ret u => exact I.after hq
      | next => exact False.elim hq
      | brk => exact False.elim hq
      | cont => exact False.elim hq
  exact thn z fun _ _ y => unpinE y
theorem pe_cmethE0 (he : PE X o ta) (c : CMetE X.K C mc m p g) (F : FnOk X.prog X.w X.K X.mg X.base CXt k g fd ps sp) (hr : Room k X.A) (hb : Binds X.K fd ps []) (hx : ∀ σ, PassesAt CXt X σ (E σ))
    (ht : eval (.Call (.Attribute o m apos) [] [] pos) X.env = (do
      let ov ← eval o X.env
      standAt apos.atName
      let (f, first) ← holding [ov] (getMethod ov m pl)
      callWith pos f first (backTo pos (starEach [] X.env)) (backToKw pos (keywordEach [] X.env))) := by rfl) :
    PE X (.Call (.Attribute o m apos) [] [] pos) (tCMethE C sp E ta tNil) := by
  refine ⟨fun pins s σ H Q I h => ?_⟩
  refine PySem.W.methodCall_KW (pl := pl) (thn (he.run pins s σ H _ I h) fun u s1 ⟨x, H1, I1, rx, ex, q⟩ => ?_) ht
  subst ex
  obtain rfl : u = Value.ref C := rx
  refine getmethcm_ok I1 c.cr c.cm fun s2 I2 => ?_
  exact callWith_M0 ⟨pin_at I2, I2.kIn⟩ c.cm.fi (run_cmS (us := []) (vs := []) F hr hb (hx σ) I2 .nil q)
/-- cls(..): the class stands in a name -/
theorem pe_makeV (M : Mk X.K C f) (F : FnOk X.prog X.w X.K X.mg X.base CXt k f fd ps sp) (hr : Room (k + 1) X.A) (hb : Binds X.K fd ps []) (hx : ∀ σ, PassesAt CXt X σ (E σ)) (hN : X.N[i]? = some x) (hv : Vis X.env.scope x)
    (ha : PA X (e :: es) t) (hd : (x == ("__debug__" : Str)) = false := by decide) (hcd : (x == ("__classdict__" : Str)) = false := by decide) (he : starEach (e :: es) X.env = (false, eval e X.env) :: starEach es X.env := by rfl) (hpl : (backTo pos (starEach es X.env)).any (·.1) = false := by rfl) :
    PE X (.Call (.Name x np) (e :: es) [] pos) (tMakeV i C sp E t) := by
  refine ⟨fun pins s σ H Q I h => ?_⟩
  obtain ⟨hs, h⟩ := h
  refine wpAny_Call_Name_kw (thn ((pe_var (pos := np) (i := i) hN hv hd hcd).run pins s σ H (fun v H1 => v = .ref C ∧ H1 = H) I ⟨.ref C, hs, rfl, rfl⟩) fun u s1 ⟨v, H1, I1, r1, ev, eH⟩ => ?_)
  subst ev
  rw [eH] at I1
  cases r1
  refine PySem.W.callWith_K (h₀ := X.base) I.ok.mod.kin M.kp (thn (ha.run pos pins s1 σ H _ I1 h) fun us s2 ⟨vs, H2, I2, r, q⟩ => ⟨I2.kIn, ?_⟩) he hpl
  exact run_makeS M F hr hb (hx σ) I2 r q
end
/-- the class itself, in a name -/
@[reducible] def dCls (C0 : Addr) : Dat Unit := ⟨fun _ _ v _ => v = .ref C0, fun _ h => h⟩
section
variable {tx : XC → Addr} {Y : YC} {Γ : List Cell} {te : TE} {tl : TA} {α β : Type} {d : Dat β} {sp : Sp} {E : _root_.L2.St → XK} {C0 : Addr}
theorem we_tup0 {α : Type} {d : Dat α} : We tx Y (tTup tNil) Γ (dTup (d := d)) (.ok ⟨[]⟩) := fun _ _ e F σ H s Q q => ⟨show (0 : Nat) ≤ PySem.sizeLine by decide, fun p hp => by
  have g2 := Gr.lay (o := .tup []) s.base hp
  exact q _ _ _ ⟨[]⟩ rfl g2 ⟨p, [], rfl, .inl upd_same, trivial⟩⟩
theorem we_cls : We tx Y (tC (.ref C0)) Γ (dCls C0) (.ok ()) := fun nb xk e F σ H s Q q => q _ F H () rfl s.base rfl
theorem oe_cm {od : @OD β d} {m : M β} (h : Oe tx Y (tCallS sp E (tCons (tC (.ref C0)) tl)) Γ od m) : Oe tx Y (tCMethE C0 sp E (tC (.ref C0)) tl) Γ od m := fun nb xk e F σ H s Q q => ⟨rfl, h nb xk e F σ H s Q q⟩
theorem oe_mkV {od : @OD β d} {i : Nat} {u : Unit} {m : M β} (hi : Γ[i]? = some (.val (dCls C0) u)) (h : Oe tx Y (tMakeS C0 sp E tl) Γ od m) : Oe tx Y (tMakeV i C0 sp E tl) Γ od m := fun nb xk e F σ H s Q q => by
  obtain ⟨v, e1, r⟩ := s.val hi
  cases r
  exact ⟨e1, h nb xk e F σ H s Q q⟩
end
end G
end

noncomputable section
/-! M30: plain data without lists (what a call may give while names are borrowed); calls within an except suite of defs that raise nothing. -/
namespace G
open PySem PySem.Spec PyProof.Rows L2 PySem.W
instance oimOb2 {α β : Type} {d1 : Dat α} {d2 : Dat β} [i1 : @Imm α d1] [i2 : @Imm β d2] {C0 : Addr} {f1 f2 : Str} : @OIm (Ob2 α β) (dOb2 (d1 := d1) (d2 := d2) C0 f1 f2) (oOb2 (d1 := d1) (d2 := d2) C0 f1 f2) :=
  @OIm.mk _ (dOb2 (d1 := d1) (d2 := d2) C0 f1 f2) (oOb2 (d1 := d1) (d2 := d2) C0 f1 f2) (fun t ⟨p, dx, v1, v2, e, h, r1, r2⟩ => ⟨p, dx, v1, v2, e, h, i1.imm t r1, i2.imm t r2⟩)
instance oimOb1 {α : Type} {d1 : Dat α} [i1 : @Imm α d1] {C0 : Addr} {f1 : Str} : @OIm (Ob1 α) (dOb1 (d1 := d1) C0 f1) (oOb1 (d1 := d1) C0 f1) :=
  @OIm.mk _ (dOb1 (d1 := d1) C0 f1) (oOb1 (d1 := d1) C0 f1) (fun t ⟨p, dx, v1, e, h, r1⟩ => ⟨p, dx, v1, e, h, i1.imm t r1⟩)
/-! ### without lists -/
mutual
def noL : PyData → Bool
  | .list _ => false
  | .tuple ds => noLs ds
  | .dict _ => false
  | _ => true
def noLs : List PyData → Bool
  | [] => true
  | d :: ds => noL d && noLs ds
end
mutual
theorem DU.imm {C : GCtx} {F H : Hp} (t : ∀ a xs, H a = some (.tup xs) → F a = some (.tup xs)) : ∀ (x : PyData) (v : V), noL x = true → DU C H x v → DU C F x v
  | .none, _, _, h => h
  | .bool _, _, _, h => h
  | .int _, _, _, h => h
  | .str _, _, _, h => h
  | .list _, _, n, _ => by cases n
  | .tuple ds, v, n, ⟨a, vs, e, h, r⟩ => ⟨a, vs, e, h.imp (t a _) id, DUs.imm t ds vs n r⟩
  | .dict _, _, _, h => h.elim
theorem DUs.imm {C : GCtx} {F H : Hp} (t : ∀ a xs, H a = some (.tup xs) → F a = some (.tup xs)) : ∀ (xs : List PyData) (vs : List V), noLs xs = true → DUs C H xs vs → DUs C F xs vs
  | [], [], _, h => h
  | d :: ds, v :: vs, n, h => by
    have n2 : (noL d && noLs ds) = true := n
    rw [Bool.and_eq_true] at n2
    exact ⟨DU.imm t d v n2.1 h.1, DUs.imm t ds vs n2.2 h.2⟩
  | [], _ :: _, _, h => h.elim
  | _ :: _, [], _, h => h.elim
end
@[reducible] def dUI : Dat PyData := ⟨fun C F v x => noL x = true ∧ DU C F x v, fun s ⟨n, h⟩ => ⟨n, DU.mono s _ _ h⟩⟩
instance imUI : @Imm PyData dUI := @Imm.mk PyData dUI fun t ⟨n, h⟩ => ⟨n, DU.imm t _ _ n h⟩
class UI (α : Type) [d : Dat α] [u : UD α] : Prop where
  no : ∀ x : α, noL (u.toU x) = true
instance uiInt : UI Int := ⟨fun _ => rfl⟩
instance uiBool : UI Bool := ⟨fun _ => rfl⟩
instance uiStr : UI Str := ⟨fun _ => rfl⟩
instance uiUnit : UI Unit := ⟨fun _ => rfl⟩
theorem noLs_map {α : Type} {d : Dat α} [u : @UD α d] [n : @UI α d u] : ∀ xs : List α, noLs (xs.map u.toU) = true
  | [] => rfl
  | x :: xs => by show (noL _ && noLs _) = true; rw [n.no x, noLs_map xs]; rfl
instance uiTup {α : Type} {d : Dat α} [u : @UD α d] [n : @UI α d u] : @UI (Tup α) dTup udTup := @UI.mk _ dTup udTup fun x => noLs_map x.l
instance uiPair {α β : Type} {d1 : Dat α} {d2 : Dat β} [u1 : @UD α d1] [u2 : @UD β d2] [n1 : @UI α d1 u1] [n2 : @UI β d2 u2] : @UI (α × β) dPair udPair := @UI.mk _ dPair udPair fun x => by
  show (noL _ && (noL _ && true)) = true
  rw [n1.no, n2.no]; rfl
instance uiT3 {α β γ : Type} {d1 : Dat α} {d2 : Dat β} {d3 : Dat γ} [u1 : @UD α d1] [u2 : @UD β d2] [u3 : @UD γ d3] [n1 : @UI α d1 u1] [n2 : @UI β d2 u2] [n3 : @UI γ d3 u3] : @UI (T3 α β γ) dT3 udT3 := @UI.mk _ dT3 udT3 fun x => by
  show (noL _ && (noL _ && (noL _ && true))) = true
  rw [n1.no, n2.no, n3.no]; rfl
instance uiT4 {α β γ δ : Type} {d1 : Dat α} {d2 : Dat β} {d3 : Dat γ} {d4 : Dat δ} [u1 : @UD α d1] [u2 : @UD β d2] [u3 : @UD γ d3] [u4 : @UD δ d4] [n1 : @UI α d1 u1] [n2 : @UI β d2 u2] [n3 : @UI γ d3 u3] [n4 : @UI δ d4 u4] : @UI (T4 α β γ δ) dT4 udT4 := @UI.mk _ dT4 udT4 fun x => by
  show (noL _ && (noL _ && (noL _ && (noL _ && true)))) = true
  rw [n1.no, n2.no, n3.no, n4.no]; rfl
section
variable {tx : XC → Addr} {Y : YC} {Γ : List Cell} {te : TE} {α : Type} {d : Dat α}
end
end G
namespace L2
open PySem PySem.Spec PyProof.Rows
/-! ### calls in a suite -/
section
variable {X : Cx} {CXt : CXT} {k : Nat} {f : Addr} {fd : FuncData} {ps : List Str} {sp : Sp} {E : L2.St → XK} {x : Str} {q pos : Pos} {e : Expr} {es : List Expr} {t : TA}
end
end L2
end

noncomputable section
/-! M31: results that hold instances, while lists are borrowed. -/
namespace G
open PySem PySem.Spec PyProof.Rows L2 PySem.W
def TI (o : HO) : Prop := (∃ xs, o = .tup xs) ∨ ∃ C dx fs, o = .ins C dx fs
class ImmI (α : Type) [d : Dat α] : Prop where
  immI : ∀ {C : GCtx} {F H : Hp} {v : V} {x : α}, (∀ a o, H a = some o → TI o → F a = some o) → d.rep C H v x → d.rep C F v x
theorem Reps.immI {α : Type} {d : Dat α} [i : @ImmI α d] {C : GCtx} {F H : Hp} (t : ∀ a o, H a = some o → TI o → F a = some o) : ∀ {vs : List V} {xs : List α}, Reps d C H vs xs → Reps d C F vs xs
  | [], [], _ => trivial
  | _ :: _, _ :: _, h => ⟨i.immI t h.1, Reps.immI t h.2⟩
  | [], _ :: _, h => h.elim
  | _ :: _, [], h => h.elim
instance (priority := low) immI_of {α : Type} {d : Dat α} [i : @Imm α d] : @ImmI α d := @ImmI.mk α d fun t r => i.imm (fun a xs h => t a _ h (.inl ⟨xs, rfl⟩)) r
instance immITup {α : Type} {d : Dat α} [i : @ImmI α d] : @ImmI (Tup α) (dTup (d := d)) := @ImmI.mk _ (dTup (d := d)) fun t ⟨a, vs, e, h, r⟩ => ⟨a, vs, e, h.imp (fun h => t a _ h (.inl ⟨vs, rfl⟩)) id, Reps.immI t r⟩
instance immIPair {α β : Type} {d1 : Dat α} {d2 : Dat β} [i1 : @ImmI α d1] [i2 : @ImmI β d2] : @ImmI (α × β) (dPair (d1 := d1) (d2 := d2)) := @ImmI.mk _ (dPair (d1 := d1) (d2 := d2)) fun t ⟨a, v1, v2, e, h, r1, r2⟩ => ⟨a, v1, v2, e, h.imp (fun h => t a _ h (.inl ⟨_, rfl⟩)) id, i1.immI t r1, i2.immI t r2⟩
instance immIOb2 {α β : Type} {d1 : Dat α} {d2 : Dat β} [i1 : @ImmI α d1] [i2 : @ImmI β d2] {C0 : Addr} {f1 f2 : Str} : @ImmI (Ob2 α β) (dOb2 (d1 := d1) (d2 := d2) C0 f1 f2) :=
  @ImmI.mk _ (dOb2 (d1 := d1) (d2 := d2) C0 f1 f2) fun t ⟨p, dx, v1, v2, e, h, r1, r2⟩ => ⟨p, dx, v1, v2, e, t p _ h (.inr ⟨_, _, _, rfl⟩), i1.immI t r1, i2.immI t r2⟩
/-- mixed data without lists -/
@[reducible] def dMixI {β : Type} (d : Dat β) : Dat (Mix β) := ⟨fun C F v x => match x with
  | .inl y => d.rep C F v y
  | .inr u => noL u = true ∧ DU C F u v, fun {C F F' v x} s h => match x, h with
  | .inl _, h => d.mono s h
  | .inr _, h => ⟨h.1, DU.mono s _ _ h.2⟩⟩
instance immIMix {β : Type} {d : Dat β} [i : @ImmI β d] : @ImmI (Mix β) (dMixI d) := @ImmI.mk _ (dMixI d) fun {C F H v x} t r => match x, r with
  | .inl _, r => i.immI t r
  | .inr u, r => ⟨r.1, DU.imm (fun a xs h => t a _ h (.inl ⟨xs, rfl⟩)) u v r.1 r.2⟩
section
variable {α β γ : Type} {d : Dat α} {d2 : Dat β}
end
/-- what is owned holds no instance -/
class NoIns {α : Type} {d : Dat α} (od : OD α) : Prop where
  no : ∀ {C : GCtx} {F : Hp} {v : V} {x : α} {L : LO}, od.orep C F v x L → ∀ p ∈ L, ¬ ∃ C dx fs, p.2 = .ins C dx fs
instance noList {α : Type} {d : Dat α} : NoIns (oList (d := d)) := ⟨fun ⟨a, vs, e, h, r⟩ p hp => by
  subst h
  rw [List.mem_singleton] at hp
  subst hp
  rintro ⟨_, _, _, z⟩
  cases z⟩
section
variable {tx : XC → Addr} {Y : YC} {Γ : List Cell} {te : TE} {α β : Type} {d : Dat α} {d2 : Dat β}
end
end G
end

noncomputable section
/-! M32: a dict of the top, int keys, texts. -/
namespace L2
open PySem PySem.Spec PyProof.Rows
/-- what stands in such a dict -/
inductive KEnt : List DictEntry → List (Int × Str) → Prop where
  | nil : KEnt [] []
  | cons {es : List DictEntry} {kvs : List (Int × Str)} (k : Int) (z : Str) (t t2 : Tok) (h : Int) (hh : h = hashInt k) (r : KEnt es kvs) : KEnt (⟨h, .int k t, .str z t2⟩ :: es) ((k, z) :: kvs)
theorem KEnt.keys {P : Program} {w : World} : ∀ {es : List DictEntry} {kvs : List (Int × Str)}, KEnt es kvs → ∀ e ∈ es, ∃ k, (intKind P w).is k e.key = true ∧ e.hash = (intKind P w).hash k
  | _, _, .nil => fun e he => by cases he
  | _, _, .cons k z t t2 h hh r => fun e he => by
    rcases List.mem_cons.mp he with rfl | he
    · exact ⟨k, by show Value.isInt k (.int k t) = true; exact beq_self_eq_true k, hh⟩
    · exact r.keys e he
section
variable {X : Cx}
end
end L2
namespace G
open PySem PySem.Spec PyProof.Rows L2 PySem.W
section
variable {tx : XC → Addr} {Y : YC} {Γ : List Cell} {tb : TE}
end
end G
end

noncomputable section
/-! M33: slices of tuples, list(t) of a tuple of unlike data. -/
namespace G
open PySem PySem.Spec PyProof.Rows L2 PySem.W
section
variable {tx : XC → Addr} {Y : YC} {Γ : List Cell} {te : TE} {α β γ : Type} {d1 : Dat α} {d2 : Dat β} {d3 : Dat γ}
/-! d.get(k, ..) -/
variable {d : Dat α} {ta tb tc : TE}
/-! walks over computed tuples -/
end
instance oimOb4 {α β γ δ : Type} {d1 : Dat α} {d2 : Dat β} {d3 : Dat γ} {d4 : Dat δ} [i1 : @Imm α d1] [i2 : @Imm β d2] {o3 : @OD γ d3} {o4 : @OD δ d4} [i3 : @OIm γ d3 o3] [i4 : @OIm δ d4 o4] {C0 : Addr} {f1 f2 f3 f4 : Str} :
    @OIm (Ob4 α β γ δ) (dOb4 (d1 := d1) (d2 := d2) (d3 := d3) (d4 := d4) C0 f1 f2 f3 f4) (oOb4 (d1 := d1) (d2 := d2) (d3 := d3) (d4 := d4) C0 f1 f2 f3 f4 o3 o4) :=
  @OIm.mk _ (dOb4 (d1 := d1) (d2 := d2) (d3 := d3) (d4 := d4) C0 f1 f2 f3 f4) (oOb4 (d1 := d1) (d2 := d2) (d3 := d3) (d4 := d4) C0 f1 f2 f3 f4 o3 o4) (fun t ⟨p, dx, v1, v2, v3, v4, L3, L4, e, h, r1, r2, r3, r4⟩ => ⟨p, dx, v1, v2, v3, v4, L3, L4, e, h, i1.imm t r1, i2.imm t r2, i3.oimm t r3, i4.oimm t r4⟩)
end G
end

set_option maxRecDepth 40000
noncomputable section
/-! M34: plain data whose lists are owned; xs.pop(i) as a statement; xs.count(n); len(set(xs)). -/
namespace G
open PySem PySem.Spec PyProof.Rows L2 PySem.W
mutual
def OUr (C : GCtx) (F : Hp) : PyData → V → LO → Prop
  | .none, v, L => v = .non ∧ L = []
  | .bool b, v, L => v = .bl b ∧ L = []
  | .int i, v, L => v = .int i ∧ L = []
  | .str s, v, L => v = .str s ∧ L = []
  | .list ds, v, L => ∃ a vs L', v = .ref a ∧ L = (a, .lst vs) :: L' ∧ OUrs C F ds vs L'
  | .tuple ds, v, L => ∃ a vs, v = .ref a ∧ TpA C.K F a vs ∧ OUrs C F ds vs L
  | .dict _, _, _ => False
def OUrs (C : GCtx) (F : Hp) : List PyData → List V → LO → Prop
  | [], [], L => L = []
  | d :: ds, v :: vs, L => ∃ L1 L2, L = L1 ++ L2 ∧ OUr C F d v L1 ∧ OUrs C F ds vs L2
  | [], _ :: _, _ => False
  | _ :: _, [], _ => False
end
mutual
theorem OUr.mono {C : GCtx} {F F' : Hp} (s : Same F F') : ∀ (x : PyData) (v : V) (L : LO), OUr C F x v L → OUr C F' x v L
  | .none, _, _, h => h
  | .bool _, _, _, h => h
  | .int _, _, _, h => h
  | .str _, _, _, h => h
  | .list ds, _, _, ⟨a, vs, L', e, e2, r⟩ => ⟨a, vs, L', e, e2, OUrs.mono s ds vs L' r⟩
  | .tuple ds, _, L, ⟨a, vs, e, h, r⟩ => ⟨a, vs, e, h.mono s, OUrs.mono s ds vs L r⟩
  | .dict _, _, _, h => h.elim
theorem OUrs.mono {C : GCtx} {F F' : Hp} (s : Same F F') : ∀ (xs : List PyData) (vs : List V) (L : LO), OUrs C F xs vs L → OUrs C F' xs vs L
  | [], [], _, h => h
  | d :: ds, v :: vs, _, ⟨L1, L2, e, h1, h2⟩ => ⟨L1, L2, e, OUr.mono s d v L1 h1, OUrs.mono s ds vs L2 h2⟩
  | [], _ :: _, _, h => h.elim
  | _ :: _, [], _, h => h.elim
end
mutual
theorem OUr.view {C : GCtx} {F H : Hp} (s : Same F H) : ∀ (x : PyData) (v : V) (L : LO), OUr C F x v L → (∀ p ∈ L, H p.1 = some p.2) → DU C H x v
  | .none, _, _, h, _ => h.1
  | .bool _, _, _, h, _ => h.1
  | .int _, _, _, h, _ => h.1
  | .str _, _, _, h, _ => h.1
  | .list ds, _, _, ⟨a, vs, L', e, e2, r⟩, k => ⟨a, vs, e, .inl (k (a, .lst vs) (by rw [e2]; exact List.mem_cons_self)), OUrs.view s ds vs L' r fun p hp => k p (by rw [e2]; exact List.mem_cons_of_mem _ hp)⟩
  | .tuple ds, _, L, ⟨a, vs, e, h, r⟩, k => ⟨a, vs, e, h.mono s, OUrs.view s ds vs L r k⟩
  | .dict _, _, _, h, _ => h.elim
theorem OUrs.view {C : GCtx} {F H : Hp} (s : Same F H) : ∀ (xs : List PyData) (vs : List V) (L : LO), OUrs C F xs vs L → (∀ p ∈ L, H p.1 = some p.2) → DUs C H xs vs
  | [], [], _, _, _ => trivial
  | d :: ds, v :: vs, _, ⟨L1, L2, e, h1, h2⟩, k => ⟨OUr.view s d v L1 h1 fun p hp => k p (by rw [e]; exact List.mem_append_left _ hp), OUrs.view s ds vs L2 h2 fun p hp => k p (by rw [e]; exact List.mem_append_right _ hp)⟩
  | [], _ :: _, _, h, _ => h.elim
  | _ :: _, [], _, h, _ => h.elim
end
mutual
theorem OUr.noL {C : GCtx} {F : Hp} : ∀ (x : PyData) (v : V), G.noL x = true → DU C F x v → OUr C F x v []
  | .none, _, _, h => ⟨h, rfl⟩
  | .bool _, _, _, h => ⟨h, rfl⟩
  | .int _, _, _, h => ⟨h, rfl⟩
  | .str _, _, _, h => ⟨h, rfl⟩
  | .list _, _, n, _ => by cases n
  | .tuple ds, v, n, ⟨a, vs, e, h, r⟩ => ⟨a, vs, e, h, OUrs.noL ds vs n r⟩
  | .dict _, _, _, h => h.elim
theorem OUrs.noL {C : GCtx} {F : Hp} : ∀ (xs : List PyData) (vs : List V), noLs xs = true → DUs C F xs vs → OUrs C F xs vs []
  | [], [], _, _ => rfl
  | d :: ds, v :: vs, n, h => by
    have n2 : (G.noL d && noLs ds) = true := n
    rw [Bool.and_eq_true] at n2
    exact ⟨[], [], rfl, OUr.noL d v n2.1 h.1, OUrs.noL ds vs n2.2 h.2⟩
  | [], _ :: _, _, h => h.elim
  | _ :: _, [], _, h => h.elim
end
theorem OUrs.at {C : GCtx} {F : Hp} : ∀ {xs : List PyData} {vs : List V} {L : LO} {i : Nat} {x : PyData}, OUrs C F xs vs L → xs[i]? = some x → ∃ v L1 Li L2, vs[i]? = some v ∧ L = L1 ++ Li ++ L2 ∧ OUr C F x v Li ∧ ∀ F' x' Li', Same F F' → OUr C F' x' v Li' → OUrs C F' (xs.set i x') vs (L1 ++ Li' ++ L2)
  | [], [], _, i, _, _, e => by cases i <;> cases e
  | y :: xs, v :: vs, L, 0, x, ⟨L1, L2, e, h1, h2⟩, hx => by
    cases (Option.some.inj hx : y = x)
    exact ⟨v, [], L1, L2, rfl, by simpa using e, h1, fun F' x' Li' s h => ⟨Li', L2, by simp, h, OUrs.mono s _ _ _ h2⟩⟩
  | y :: xs, v :: vs, L, i + 1, x, ⟨L1, L2, e, h1, h2⟩, hx => by
    obtain ⟨w, M1, Mi, M2, e1, e2, h3, f⟩ := OUrs.at (i := i) h2 hx
    exact ⟨w, L1 ++ M1, Mi, M2, e1, by rw [e, e2]; simp [List.append_assoc], h3, fun F' x' Li' s h => ⟨L1, M1 ++ Li' ++ M2, by simp [List.append_assoc], OUr.mono s _ _ _ h1, f F' x' Li' s h⟩⟩
  | [], _ :: _, _, _, _, h, _ => h.elim
  | _ :: _, [], _, _, _, h, _ => h.elim
theorem OUrs.len {C : GCtx} {F : Hp} : ∀ {xs : List PyData} {vs : List V} {L : LO}, OUrs C F xs vs L → vs.length = xs.length
  | [], [], _, _ => rfl
  | _ :: _, _ :: _, _, ⟨_, _, _, _, h2⟩ => by simp [OUrs.len h2]
  | [], _ :: _, _, h => h.elim
  | _ :: _, [], _, h => h.elim
theorem OUrs.append {C : GCtx} {F : Hp} {y : PyData} {w : V} {M : LO} (g : OUr C F y w M) : ∀ {xs : List PyData} {vs : List V} {L : LO}, OUrs C F xs vs L → OUrs C F (xs ++ [y]) (vs ++ [w]) (L ++ M)
  | [], [], _, h => by
    cases (show _ = [] from h)
    exact ⟨M, [], by simp, g, rfl⟩
  | _ :: _, _ :: _, _, ⟨L1, L2, e, h1, h2⟩ => ⟨L1, L2 ++ M, by rw [e, List.append_assoc], h1, OUrs.append g h2⟩
  | [], _ :: _, _, h => h.elim
  | _ :: _, [], _, h => h.elim
/-- plain data, its lists owned -/
@[reducible] def oU : @OD PyData dU := @OD.mk PyData dU (fun C F v x L => OUr C F x v L) (fun s h => OUr.mono s _ _ _ h) (fun h s k => OUr.view s _ _ _ h k)
section
variable {tx : XC → Addr} {Y : YC} {Γ : List Cell} {te ta tb : TE} {α τ : Type} {d : Dat α} {rest : TS} {js : List Nat} {K : Kt τ}
/-! x[k].append(y), x such data -/
/-! xs.pop(i), its answer dropped -/
/-! xs.count(n) of ints -/
end
/-! len(set(xs)) -/
end G
namespace L2
open PySem PySem.Spec PyProof.Rows
section
variable {X : Cx}
end
end L2
namespace G
open PySem PySem.Spec PyProof.Rows L2 PySem.W
section
variable {tx : XC → Addr} {Y : YC} {Γ : List Cell} {ta : TE}
end
end G
end
namespace G
open PySem L2
/-! plain data within pairs -/
instance datU : Dat PyData := dU
instance udU : @UD PyData dU := ⟨fun x => x, fun h => h⟩
end G

/-! M35: try .. except (A, B): suite; try .. except A: suite (without a name). -/
noncomputable section
namespace L2
open PySem PySem.Spec PyProof.Rows
section
variable {X : Cx} {x1 x2 : Str} {c1 c2 : Value} {body suite : List Stmt} {b₀ : Stmt} {np1 np2 tpos pos pos' : Pos} {tb : WX → TS} {ts : Addr → Value → Option Addr → TS} {Wout : WX}
end
end L2
namespace L2
open PySem PySem.Spec PyProof.Rows
section
variable {X : Cx} {x x1 x2 : Str} {c c1 c2 : Value} {body suite : List Stmt} {b₀ : Stmt} {np np1 np2 tpos pos pos' : Pos} {tb : WX → TS} {ts : Addr → Value → Option Addr → TS} {Wout : WX}
end
end L2
namespace G
open PySem PySem.Spec PyProof.Rows L2 PySem.W
section
variable {Y : YC} {Γ : List Cell} {k : Ks}
end
end G
end

/-! M36: xs.index(y) for data. -/
noncomputable section
namespace G
open PySem PySem.Spec PyProof.Rows L2 PySem.W
/-- the data's equality needs no text -/
class DL (α : Type) {d : Dat α} [de : @DE α d] : Prop where
  lay0 : ∀ x, (de.toD x).canLay0 = true
instance dlInt : @DL Int dInt deInt := @DL.mk _ _ deInt fun _ => by simp [DE.toD, PyData.canLay0]
instance dlBool : @DL Bool dBool deBool := @DL.mk _ _ deBool fun _ => by simp [DE.toD, PyData.canLay0]
theorem dlAll {α : Type} {d : Dat α} [de : @DE α d] [dl : @DL α d de] : ∀ xs : List α, PyData.canLayAll0 (xs.map de.toD) = true
  | [] => by simp [PyData.canLayAll0]
  | x :: xs => by simp [PyData.canLayAll0, dl.lay0, dlAll xs]
instance dlList {α : Type} {d : Dat α} [de : @DE α d] [dl : @DL α d de] : @DL (List α) dList deList := @DL.mk _ _ deList fun x => by
  show PyData.canLay0 (.list (x.map de.toD)) = true
  simp [PyData.canLay0, dlAll x]
instance dlPair {α β : Type} {d1 : Dat α} {d2 : Dat β} [de1 : @DE α d1] [de2 : @DE β d2] [dl1 : @DL α d1 de1] [dl2 : @DL β d2 de2] : @DL (α × β) dPair dePair := @DL.mk _ _ dePair fun x => by
  show PyData.canLay0 (.tuple [de1.toD x.1, de2.toD x.2]) = true
  simp [PyData.canLay0, PyData.canLayAll0, dl1.lay0, dl2.lay0]
instance dlT4 {α β γ δ : Type} {d1 : Dat α} {d2 : Dat β} {d3 : Dat γ} {d4 : Dat δ} [de1 : @DE α d1] [de2 : @DE β d2] [de3 : @DE γ d3] [de4 : @DE δ d4] [dl1 : @DL α d1 de1] [dl2 : @DL β d2 de2] [dl3 : @DL γ d3 de3] [dl4 : @DL δ d4 de4] : @DL (T4 α β γ δ) dT4 deT4 := @DL.mk _ _ deT4 fun x => by
  show PyData.canLay0 (.tuple [de1.toD x.a, de2.toD x.b, de3.toD x.c, de4.toD x.d]) = true
  simp [PyData.canLay0, PyData.canLayAll0, dl1.lay0, dl2.lay0, dl3.lay0, dl4.lay0]
section
variable {tx : XC → Addr} {Y : YC} {Γ : List Cell} {ta tb : TE} {α : Type} {d : Dat α}
end
/-! a slice of an owned list -/
section
variable {tx : XC → Addr} {Y : YC} {Γ : List Cell} {te : TE} {α : Type} {d : Dat α}
theorem o_slR [i : @Imm α d] {tl th : TO} {kx : List α → Prop} (h : R Y te Γ (dList (d := d)) fun xs => TOk Y tl Γ fun lo => TOk Y th Γ fun hi => kx (cutL xs lo hi)) : O Y (tSl (rSlL Y.K) te tl th) Γ (oList (d := d)) kx := fun e F σ H s Q q => h e F σ H s _ fun v F1 H1 xs h1 g1 ⟨a, vs, e1, hq, r⟩ => by
  subst e1
  refine h1 e F1 σ H1 (s.grow g1) _ fun lo F2 H2 h2 g2 => h2 e F2 σ H2 ((s.grow g1).grow g2) _ fun hi F3 H3 h3 g3 => ⟨a, vs, rfl, ?_, fun p hp => ?_⟩
  · exact (g2.hh0.trans g3.hh0).seq hq
  · obtain ⟨h4, h5⟩ := o_new (L := []) g3.base hp (cut_rep ((r.imm g1.tp).mono (g2.ff.trans g3.ff)) lo hi)
    have g4 := ((g1.trans0 g2).trans0 g3).trans h4
    exact q _ F3 _ _ _ h3 (by simpa using g4) h5
theorem oe_slR [i : @Imm α d] {tl th : TO} {m : M (List α)} {n o : M (Option Int)} (h : Re tx Y te Γ (dList (d := d)) m) (h2 : TOe tx Y tl Γ n) (h3 : TOe tx Y th Γ o) : Oe tx Y (tSl (rSlL Y.K) te tl th) Γ (oList (d := d)) (m >>= fun xs => n >>= fun lo => o >>= fun hi => .ok (cutL xs lo hi)) := fun nb xk =>
  o_slR (h.k nb xk fun xs e nb xk => to_mono (h2 (M.nb1 nb) xk.l) fun lo e2 => to_mono (h3 (M.nb1 (f := fun hi => .ok (cutL xs lo hi)) (M.nb2 (f := fun lo => o >>= fun hi => .ok (cutL xs lo hi)) nb e2)) (XkM.l (f := fun hi => .ok (cutL xs lo hi)) (XkM.r (f := fun lo => o >>= fun hi => .ok (cutL xs lo hi)) xk e2))) fun hi e3 => by rw [e]; show (n >>= _) = _; rw [e2]; show (o >>= _) = _; rw [e3]; rfl)
end
end G
namespace L2
open PySem PySem.Spec PyProof.Rows
section
variable {X : Cx}
end
end L2
end

/-! M37: own operators: a + b of two instances of one class, ~a, -a, and the call of an instance. -/
namespace G
open PySem PySem.Spec PyProof.Rows L2 PySem.W
section
variable {prog : Program} {w : World} {A : Around} {E : Value → Shared → Prop} {s : Shared} {K : Frag} {x y C L f : Addr} {h₀ : Heap} {m : Str → Option Value} {ox oy : Obj} {od od2 : Option Obj}
end
section
variable {X : Cx} {CXt : CXT} {k : Nat} {f C : Addr} {fd : FuncData} {ps : List Str} {sp : Sp} {E : L2.St → XK} {pos : Pos} {e o fe a b : Expr} {es : List Expr} {ta tb : TE} {t : TA}
end
/-! readings -/
section
variable {Y : YC} {Γ : List Cell} {ta tb : TE} {tl : TA} {α β γ : Type} {d : Dat α} {d2 : Dat β} {d1 : Dat γ} {C0 : Addr} {ns ns2 : List Str} {sp : Sp} {E : L2.St → XK} {BA : List V → Hp → Prop}
end
section
variable {tx : XC → Addr} {Y : YC} {Γ : List Cell} {β : Type} {d : Dat β} {t0 t1 t2 t3 : TE} {sp : Sp} {E : L2.St → XK}
variable {α0 α1 α2 α3 : Type} {d0 : Dat α0} {d1 : Dat α1} {d2 : Dat α2} {d3 : Dat α3} {m0 : M α0} {m1 : M α1} {m2 : M α2} {m3 : M α3} {C0 : Addr} {ns ns2 : List Str}
end
section
variable {tx : XC → Addr} {Y : YC} {Γ : List Cell} {t : TT} {τ : Type} {t1 t2 rest : TS} {js : List Nat} {K : Kt τ}
end
end G

noncomputable section
/-! M38: for x in xs: x.append(n). -/
namespace G
open PySem PySem.Spec PyProof.Rows L2 PySem.W
/-- y behind each of the rows -/
def M.appAll {α : Type} (xs : List (List α)) (y : α) : M (List (List α)) := M.asrt (∀ x ∈ xs, x.length < PySem.sizeLine) (.ok (xs.map fun x => x ++ [y]))
section
variable {tx : XC → Addr} {Y : YC} {Γ : List Cell} {te : TE} {τ : Type} {rest : TS} {js : List Nat} {K : Kt τ} {k : Ks}
theorem z_forAppT {i j : Nat} {pin : Option V} {gs : List (List Int)} {n : Int} {c0 : Cell} (ht : ∀ σ H Q, Q (.int n) H → te σ H Q) (hij : i ≠ j) (hi : Γ[i]? = some (.own (dList (d := dList (d := dInt))) (oDeep (oList (d := dInt))) pin gs)) (hj : Γ[j]? = some c0)
    (hl : ∀ x ∈ gs, x.length < PySem.sizeLine) (h : k.nx ((Γ.set i (.own (dList (d := dList (d := dInt))) (oDeep (oList (d := dInt))) pin (gs.map (· ++ [n])))).set j .no)) :
    Z Y (tFor (iList Y.K (tVar i)) (gName j) (tDrop (tBM Y.K "list" rAppend (tVar j) (tCons te tNil)))) Γ k := fun e F σ H D hM s c => by
  have s0 := s.hide hj
  have hi0 : (Γ.set j .no)[i]? = some (.own (dList (d := dList (d := dInt))) (oDeep (oList (d := dInt))) pin gs) := by rw [List.getElem?_set_ne (fun z => hij z.symm)]; exact hi
  obtain ⟨v, Li, rest, e1, ⟨a, vs, L2, rfl, rfl, r⟩, kw, f⟩ := s0.mut hi0
  have ha : H a = some (.lst vs) := (kw.ow (a, .lst vs) (by simp)).2.1
  refine ⟨.ref a, e1, a, rfl, ⟨vs, .inl (.inl ha)⟩, for_list (K := Y.K) (a := a) (xs := vs) (fun m σ' H' => ∃ o L1 Lb, σ' = σ.set j o ∧ Wk e F ((a, .lst vs) :: (L1 ++ Lb) ++ rest) H' ∧ OReps (oList (d := dInt)) Y.g F (vs.take m) ((gs.take m).map (· ++ [n])) L1 ∧ OReps (oList (d := dInt)) Y.g F (vs.drop m) (gs.drop m) Lb) ?_ (fun m σ' H' _ ⟨o, L1, Lb, _, k1, _⟩ => .inl (.inl (k1.ow (a, .lst vs) (by simp)).2.1)) (fun m w σ' H' hw ⟨o, L1, Lb, es, k1, r1, rb⟩ => ?_) fun σ' H' ⟨o, L1, Lb, es, k1, r1, rb⟩ => ?_⟩
  · obtain ⟨oj, hoj⟩ : ∃ oj, σ[j]? = some oj := by
      have hjl : j < σ.length := by rw [s.len]; exact (List.getElem?_eq_some_iff.mp hj).1
      exact ⟨σ[j], by simp [hjl]⟩
    refine ⟨oj, [], L2, ?_, kw, rfl, r⟩
    apply List.ext_getElem?
    intro m
    by_cases hm : j = m
    · subst hm
      rw [List.getElem?_set_self (List.getElem?_eq_some_iff.mp hoj).1, hoj]
    · rw [List.getElem?_set_ne hm]
  · have hlt : m < vs.length := (List.getElem?_eq_some_iff.mp hw).1
    have hlx : m < gs.length := by rw [← r.len]; exact hlt
    have hx : gs[m]? = some gs[m] := by simp [hlx]
    generalize gs[m] = x at hx
    have dv : vs.drop m = w :: vs.drop (m + 1) := by rw [← List.getElem_cons_drop hlt]; congr 1; exact (List.getElem?_eq_some_iff.mp hw).2
    have dx : gs.drop m = x :: gs.drop (m + 1) := by rw [← List.getElem_cons_drop hlx]; congr 1; exact (List.getElem?_eq_some_iff.mp hx).2
    rw [dv, dx] at rb
    obtain ⟨Lx, Lb', eL, ⟨b, us, e2, e3, ru⟩, rb'⟩ := rb
    subst eL e2 e3
    have hb : H' b = some (.lst us) := (k1.ow (b, .lst us) (by simp)).2.1
    have hsj : (σ'.set j (some (.ref b)))[j]? = some (some (.ref b)) := by
      rw [List.getElem?_set_self]
      rw [es, List.length_set, s.len]
      exact (List.getElem?_eq_some_iff.mp hj).1
    refine ⟨.ref b, hsj, .inl ⟨rfl, us, .inl (.inl hb)⟩, ht _ _ _ ⟨b, us, .int n, rfl, rfl, hb, by rw [ru.len]; exact hl x (List.mem_of_getElem? hx), ?_⟩⟩
    refine ⟨some (.ref b), L1 ++ [(b, .lst (us ++ [.int n]))], Lb', by rw [es]; exact List.set_set _, ?_, ?_, rb'⟩
    · have k2 : Wk e F (((a, .lst vs) :: L1) ++ [(b, .lst us)] ++ (Lb' ++ rest)) H' := by simpa [List.append_assoc] using k1
      have k3 := k2.front.put (o' := .lst (us ++ [.int n])) (fun _ z => by cases z)
      have k4 : Wk e F (((a, .lst vs) :: L1) ++ [(b, .lst (us ++ [.int n]))] ++ (Lb' ++ rest)) _ := Wk.back (Li := [(b, .lst (us ++ [.int n]))]) k3
      simpa [List.append_assoc] using k4
    · rw [List.take_add_one, hw, List.take_add_one, hx, List.map_append]
      exact r1.append (OReps.one ⟨b, _, rfl, rfl, ru.append (Reps.one rfl)⟩)
  · rw [List.take_length] at r1
    rw [r.len, List.take_length] at r1
    have k2 : Wk e F (((a, .lst vs) :: L1) ++ rest) H' := k1.sublist (by
      rw [List.cons_append, List.cons_append]
      exact .cons₂ _ (List.Sublist.append_right (List.sublist_append_left _ _) _))
    have st := f F H' ((a, .lst vs) :: L1) (gs.map (· ++ [n])) (Same.refl F) k2 ⟨a, vs, L1, rfl, rfl, r1⟩
    have st2 := st.forget (i := j) (o := o) (c := .no) (by
      rw [List.getElem?_set_ne hij, List.getElem?_set_self (List.getElem?_eq_some_iff.mp hj).1])
    rw [← es] at st2
    have eΓ : ((Γ.set j .no).set i (.own (dList (d := dList (d := dInt))) (oDeep (oList (d := dInt))) pin (gs.map (· ++ [n])))).set j .no = (Γ.set i (.own (dList (d := dList (d := dInt))) (oDeep (oList (d := dInt))) pin (gs.map (· ++ [n])))).set j .no := by
      rw [set_comm _ _ _ (fun z => hij z.symm), List.set_set]
    rw [eΓ] at st2
    exact c.nx F σ' H' _ h st2
theorem zm_forApp {i j : Nat} {pin : Option V} {gs : List (List Int)} {n : Int} {c0 : Cell} {m2 : List (List Int) → M τ} (ht : ∀ σ H Q, Q (.int n) H → te σ H Q) (hij : i ≠ j) (hi : Γ[i]? = some (.own (dList (d := dList (d := dInt))) (oDeep (oList (d := dInt))) pin gs)) (hj : Γ[j]? = some c0) (h1 : i ∈ js) (h2 : j ∈ js)
    (h : ∀ z, Zm tx Y js rest ((Γ.set i (.own (dList (d := dList (d := dInt))) (oDeep (oList (d := dInt))) pin z)).set j .no) K (m2 z)) : Zm tx Y js (tSeq (tFor (iList Y.K (tVar i)) (gName j) (tDrop (tBM Y.K "list" rAppend (tVar j) (tCons te tNil)))) rest) Γ K (M.appAll gs n >>= m2) := fun nb xk =>
  z_seq (z_forAppT ht hij hi hj (M.asrt_nb (M.nb1 nb)) ((h _).go nb xk (M.asrt_pos (M.asrt_nb (M.nb1 nb))) ((wipeC_set h2).trans (wipeC_set h1))))
end
end G
end

noncomputable section
/-! M39: {key: value for ..} with values that are not owned, over lists, tuples and enumerate. -/
namespace G
open PySem PySem.Spec PyProof.Rows L2 PySem.W
section
variable {tx : XC → Addr} {Y : YC} {Γ : List Cell} {te ta tb tl tk tv : TE} {t u tt : TT} {α β : Type} {d : Dat α} {d2 : Dat β} {g : TG}
end
end G
end

noncomputable section
/-! M40: list(o), o an instance whose __iter__ gives an iterator over a tuple that it holds. -/
namespace G
open PySem PySem.Spec PyProof.Rows L2 PySem.W
section
variable {X : Cx} {pins : List (Addr × Obj)} {σ : L2.St} {A1 : Around}
end
section
variable {X : Cx} {CXt : CXT} {k : Nat} {g C : Addr} {fd : FuncData} {ps : List Str} {f : Str}
end
section
variable {tx : XC → Addr} {Y : YC} {Γ : List Cell} {te : TE} {α β : Type} {d : Dat α} {d2 : Dat β} {C0 : Addr} {f : Str}
end
end G
end

noncomputable section
/-! M41: sorted(xs) for data: whole numbers, pairs, lists of these. -/
namespace G
open PySem PySem.Spec PyProof.Rows L2 PySem.W
/-- data that stand in one order -/
class DO (α : Type) {d : Dat α} [de : @DE α d] : Prop where
  alk : ∀ x y, alike (de.toD x) (de.toD y) = true
/-- what sorted asks of the items -/
class DSo (α : Type) {d : Dat α} [de : @DE α d] : Prop where
  so : (∀ x, ∃ y r, de.toD x = .tuple (y :: r)) ∨ ∀ x, de.toD x ≠ .none ∧ ∀ xs, de.toD x ≠ .tuple xs
instance doInt : @DO Int dInt deInt := @DO.mk _ _ deInt fun x y => rfl
theorem alk_all {α : Type} {d : Dat α} [de : @DE α d] [o : @DO α d de] : ∀ xs ys : List α, alikeAll (xs.map de.toD) (ys.map de.toD) = true
  | [], [] => by simp [alikeAll]
  | [], _ :: _ => by simp [alikeAll]
  | _ :: _, [] => by simp [alikeAll]
  | x :: xs, y :: ys => by
    simp only [List.map_cons, alikeAll, Bool.and_eq_true]
    exact ⟨o.alk x y, alk_all xs ys⟩
instance doList {α : Type} {d : Dat α} [de : @DE α d] [o : @DO α d de] : @DO (List α) dList deList := @DO.mk _ _ deList fun x y => by
  show alike (.list (x.map de.toD)) (.list (y.map de.toD)) = true
  rw [alike]
  exact alk_all x y
instance doPair {α β : Type} {d1 : Dat α} {d2 : Dat β} [de1 : @DE α d1] [de2 : @DE β d2] [o1 : @DO α d1 de1] [o2 : @DO β d2 de2] : @DO (α × β) dPair dePair := @DO.mk _ _ dePair fun x y => by
  show alike (.tuple [de1.toD x.1, de2.toD x.2]) (.tuple [de1.toD y.1, de2.toD y.2]) = true
  rw [alike]
  simp [alikeAll, o1.alk, o2.alk]
instance soList {α : Type} {d : Dat α} [de : @DE α d] : @DSo (List α) dList deList := @DSo.mk _ _ deList (.inr fun x => And.intro (fun z => nomatch (show PyData.list (x.map de.toD) = .none from z)) fun xs z => nomatch (show PyData.list (x.map de.toD) = .tuple xs from z))
instance soPair {α β : Type} {d1 : Dat α} {d2 : Dat β} [de1 : @DE α d1] [de2 : @DE β d2] : @DSo (α × β) dPair dePair := @DSo.mk _ _ dePair (.inl fun x => ⟨_, _, rfl⟩)
/-- x before y -/
class OLt (α : Type) where
  lt : α → α → Bool
instance ltInt : OLt Int := ⟨fun a b => decide (a < b)⟩
instance ltPair {α β : Type} [DecidableEq α] [OLt α] [OLt β] : OLt (α × β) := ⟨fun x y => if x.1 = y.1 then OLt.lt x.2 y.2 else OLt.lt x.1 y.1⟩
def ltL {α : Type} [DecidableEq α] [OLt α] : List α → List α → Bool
  | _, [] => false
  | [], _ :: _ => true
  | x :: xs, y :: ys => if x = y then ltL xs ys else OLt.lt x y
instance ltList {α : Type} [DecidableEq α] [OLt α] : OLt (List α) := ⟨ltL⟩
class DLt (α : Type) {d : Dat α} [de : @DE α d] [OLt α] : Prop where
  is : ∀ x y, dataLt (de.toD x) (de.toD y) = OLt.lt x y
instance dltInt : @DLt Int dInt deInt _ := @DLt.mk _ _ deInt _ fun x y => dataLt_int x y
theorem dataLt_self (d : PyData) : dataLt d d = false := by
  unfold dataLt
  exact lex_irrefl _
instance dltPair {α β : Type} [DecidableEq α] [OLt α] [OLt β] {d1 : Dat α} {d2 : Dat β} [de1 : @DE α d1] [de2 : @DE β d2] [o1 : @DO α d1 de1] [o2 : @DO β d2 de2] [l1 : @DLt α d1 de1 _] [l2 : @DLt β d2 de2 _] : @DLt (α × β) dPair dePair _ := @DLt.mk _ _ dePair _ fun x y => by
  show dataLt (.tuple [de1.toD x.1, de2.toD x.2]) (.tuple [de1.toD y.1, de2.toD y.2]) = if x.1 = y.1 then OLt.lt x.2 y.2 else OLt.lt x.1 y.1
  rw [dataLt_pair (o1.alk _ _) (o2.alk _ _)]
  by_cases h1 : x.1 = y.1
  · rw [if_pos ((de1.eqv _ _).mpr h1), if_pos h1]
    by_cases h2 : x.2 = y.2
    · rw [if_pos ((de2.eqv _ _).mpr h2), ← l2.is, h2, dataLt_self]
    · rw [if_neg (fun z => h2 ((de2.eqv _ _).mp z)), l2.is]
  · rw [if_neg (fun z => h1 ((de1.eqv _ _).mp z)), if_neg h1, l1.is]
theorem dlt_all {α : Type} [DecidableEq α] [OLt α] {d : Dat α} [de : @DE α d] [o : @DO α d de] [l : @DLt α d de _] : ∀ xs ys : List α, PyProof.Rows.lexLt itemOrd (keyToksAll (xs.map de.toD)) (keyToksAll (ys.map de.toD)) = ltL xs ys
  | [], [] => by
    simp only [List.map_nil, keyToksAll, ltL]
    rfl
  | [], y :: ys => by
    simp only [List.map_nil, List.map_cons, keyToksAll, ltL]
    rw [lex_diff (O := itemOrd) (fun z => by cases z)]
    rfl
  | x :: xs, [] => by
    simp only [List.map_nil, List.map_cons, keyToksAll, ltL]
    rw [lex_diff (O := itemOrd) (fun z => by cases z)]
    rfl
  | x :: xs, y :: ys => by
    rw [List.map_cons, List.map_cons, dataLt_cons (o.alk x y), ltL]
    by_cases h : x = y
    · rw [if_pos ((de.eqv _ _).mpr h), if_pos h]
      exact dlt_all xs ys
    · rw [if_neg (fun z => h ((de.eqv _ _).mp z)), if_neg h, l.is]
instance dltList {α : Type} [DecidableEq α] [OLt α] {d : Dat α} [de : @DE α d] [o : @DO α d de] [l : @DLt α d de _] : @DLt (List α) dList deList _ := @DLt.mk _ _ deList _ fun x y => by
  show dataLt (.list (x.map de.toD)) (.list (y.map de.toD)) = ltL x y
  rw [dataLt_list]
  exact dlt_all x y
section
variable {X : Cx}
end
section
variable {tx : XC → Addr} {Y : YC} {Γ : List Cell} {te : TE} {α : Type} {d : Dat α}
end
end G
end

noncomputable section
/-! M42: a, b = xs.pop(), a, b = xs.pop(i). -/
namespace G
open PySem PySem.Spec PyProof.Rows L2 PySem.W
section
variable {tx : XC → Addr} {Y : YC} {Γ : List Cell} {ta te : TE} {α τ : Type} {d : Dat α} {g : TG} {rest : TS} {js : List Nat} {K : Kt τ} {k : Ks}
end
end G
end

noncomputable section
/-! M43: a static method by an instance. -/
namespace G
open PySem PySem.Spec PyProof.Rows L2 PySem.W
section
variable {X : Cx} {CXt : CXT} {k : Nat} {C g p : Addr} {fd : FuncData} {ps : List Str} {sp : Sp} {E : L2.St → XK} {m : Str} {apos pos : Pos} {e o : Expr} {es : List Expr} {ta : TE} {t : TA} {pl : Sem Bool}
end
section
variable {Y : YC} {Γ : List Cell} {ta : TE} {tl : TA} {α β : Type} {d : Dat α} {d2 : Dat β} {C0 : Addr} {m : Str} {ns : List Str} {sp : Sp} {E : L2.St → XK}
end
section
variable {tx : XC → Addr} {Y : YC} {Γ : List Cell} {β : Type} {d : Dat β} {t0 t1 t2 : TE} {sp : Sp} {E : L2.St → XK}
variable {α0 α1 α2 : Type} {d0 : Dat α0} {d1 : Dat α1} {d2 : Dat α2} {m0 : M α0} {m1 : M α1} {m2 : M α2} {C0 : Addr} {mn : Str} {ns : List Str}
end
end G
end

noncomputable section
/-! M44: xs += (a, b) (a list and a pair of its items' type). -/
namespace G
open PySem PySem.Spec PyProof.Rows L2 PySem.W PySem.AutoSeq1
section
variable {Y : YC} {Γ : List Cell} {te : TE} {α : Type} {d : Dat α} {k : Ks}
end
section
variable {tx : XC → Addr} {Y : YC} {Γ : List Cell} {te : TE} {α τ : Type} {d : Dat α} {K : Kt τ} {rest : TS} {js : List Nat}
end
end G

noncomputable section
/-! M45: return sorted(xs) of a name whose list owns its parts. -/
namespace G
open PySem PySem.Spec PyProof.Rows L2 PySem.W
section
variable {α : Type} {d : Dat α}
variable {Y : YC} {Γ : List Cell} {k : Ks}
end
section
variable {tx : XC → Addr} {Y : YC} {Γ : List Cell} {α : Type} {d : Dat α} {rest : TS} {js : List Nat}
end
end G

noncomputable section
/-! M46: triples that own their parts; str + str. -/
namespace G
open PySem PySem.Spec PyProof.Rows L2 PySem.W
@[reducible] def oT3 {α β γ : Type} {d1 : Dat α} {d2 : Dat β} {d3 : Dat γ} (od1 : @OD α d1) (od2 : @OD β d2) (od3 : @OD γ d3) : @OD (T3 α β γ) (dT3 (d1 := d1) (d2 := d2) (d3 := d3)) := @OD.mk (T3 α β γ) (dT3 (d1 := d1) (d2 := d2) (d3 := d3))
  (fun C F v x L => ∃ a v1 v2 v3 L1 L2 L3, v = .ref a ∧ L = L1 ++ (L2 ++ L3) ∧ TpA C.K F a [v1, v2, v3] ∧ od1.orep C F v1 x.a L1 ∧ od2.orep C F v2 x.b L2 ∧ od3.orep C F v3 x.c L3)
  (fun s ⟨a, v1, v2, v3, L1, L2, L3, e, h, t, r1, r2, r3⟩ => ⟨a, v1, v2, v3, L1, L2, L3, e, h, t.mono s, od1.omono s r1, od2.omono s r2, od3.omono s r3⟩)
  (fun ⟨a, v1, v2, v3, L1, L2, L3, e, h, t, r1, r2, r3⟩ s k => ⟨a, v1, v2, v3, e, t.mono s, od1.view r1 s fun p hp => k p (by rw [h]; simp [hp]), od2.view r2 s fun p hp => k p (by rw [h]; simp [hp]), od3.view r3 s fun p hp => k p (by rw [h]; simp [hp])⟩)
theorem permT1 {α : Type} {M1 M2 M3 L1 Li L2 : List α} : ((M1 ++ (M2 ++ M3)) ++ (L1 ++ Li ++ L2)).Perm (((M2 ++ M3) ++ (L1 ++ M1 ++ L2)) ++ Li) := by
  classical
  rw [List.perm_iff_count]
  intro a
  simp only [List.count_append]
  omega
theorem permT2 {α : Type} {M2 M3 N1 Nj N2 : List α} : ((M2 ++ M3) ++ (N1 ++ Nj ++ N2)).Perm ((M3 ++ (N1 ++ M2 ++ N2)) ++ Nj) := by
  classical
  rw [List.perm_iff_count]
  intro a
  simp only [List.count_append]
  omega
section
variable {Y : YC} {Γ : List Cell} {k : Ks} {te : TE} {α β γ : Type} {d1 : Dat α} {d2 : Dat β} {d3 : Dat γ}
theorem z_setT3 {od1 : @OD α d1} {od2 : @OD β d2} {od3 : @OD γ d3} {i j m n : Nat} {c1 c2 c3 : Cell} (hn : n = 3) (hij : i ≠ j) (him : i ≠ m) (hjm : j ≠ m) (hi : Γ[i]? = some c1) (hj : Γ[j]? = some c2) (hm : Γ[m]? = some c3)
    (h : O Y te Γ (oT3 od1 od2 od3) fun x => k.nx (((Γ.set i (.own d1 od1 none x.a)).set j (.own d2 od2 none x.b)).set m (.own d3 od3 none x.c))) : Z Y (tAsg te (gTup Y.K n (gCons (gName i) (gCons (gName j) (gCons (gName m) gNil))))) Γ k := fun e F σ H D hM s c => h e F σ H s _ fun v F' H' L' x kx g ⟨a, v1, v2, v3, M1, M2, M3, e1, e2, ht, r1, r2, r3⟩ => by
  subst e1 e2 hn
  refine ⟨a, [v1, v2, v3], rfl, (ht.mono g.fh).sq, rfl, v1, [v2, v3], rfl, v2, [v3], rfl, v3, [], rfl, rfl, ?_⟩
  obtain ⟨hx, L, k0, sl⟩ := id s
  obtain ⟨o, L1, Li, L2, e3, e4, _, f⟩ := sl.get hi
  subst e4
  have sl2 := f F' (some v1) (.own d1 od1 none x.a) M1 g.ff ⟨v1, rfl, fun _ z => (nomatch z), r1⟩
  obtain ⟨o', N1, Nj, N2, e5, e6, _, f2⟩ := sl2.get (i := j) (by rw [List.getElem?_set_ne hij]; exact hj)
  have sl3 := f2 F' (some v2) (.own d2 od2 none x.b) M2 (Same.refl F') ⟨v2, rfl, fun _ z => (nomatch z), r2⟩
  obtain ⟨o'', P1, Pj, P2, e7, e8, _, f3⟩ := sl3.get (i := m) (by rw [List.getElem?_set_ne hjm, List.getElem?_set_ne him]; exact hm)
  have sl4 := f3 F' (some v3) (.own d3 od3 none x.c) M3 (Same.refl F') ⟨v3, rfl, fun _ z => (nomatch z), r3⟩
  refine c.nx F' _ H' _ kx ⟨hx, _, ?_, sl4⟩
  have kw := k0.trans g
  have k2 : Wk e F' ((M2 ++ M3) ++ (L1 ++ M1 ++ L2)) H' := (kw.perm permT1).subl (List.sublist_append_left _ _)
  rw [e6] at k2
  have k3 : Wk e F' (M3 ++ (N1 ++ M2 ++ N2)) H' := (k2.perm permT2).subl (List.sublist_append_left _ _)
  rw [e8] at k3
  exact (k3.perm permS2).subl (List.sublist_append_left _ _)
end
section
variable {tx : XC → Addr} {Y : YC} {Γ : List Cell} {te ta tb : TE} {α β γ τ : Type} {d1 : Dat α} {d2 : Dat β} {d3 : Dat γ} {rest : TS} {js : List Nat} {K : Kt τ}
theorem zm_setT3 {od1 : @OD α d1} {od2 : @OD β d2} {od3 : @OD γ d3} {i j m n : Nat} {c1 c2 c3 : Cell} {m1 : M (T3 α β γ)} {m2 : T3 α β γ → M τ} (hn : n = 3) (hij : (i == j) = false) (him : (i == m) = false) (hjm : (j == m) = false) (hi : Γ[i]? = some c1) (hj : Γ[j]? = some c2) (hm : Γ[m]? = some c3) (hji : i ∈ js) (hjj : j ∈ js) (hjk : m ∈ js) (h : Oe tx Y te Γ (oT3 od1 od2 od3) m1)
    (h2 : ∀ x, Zm tx Y js rest (((Γ.set i (.own d1 od1 none x.a)).set j (.own d2 od2 none x.b)).set m (.own d3 od3 none x.c)) K (m2 x)) : Zm tx Y js (tSeq (tAsg te (gTup Y.K n (gCons (gName i) (gCons (gName j) (gCons (gName m) gNil))))) rest) Γ K (m1 >>= m2) := fun nb xk =>
  z_seq (z_setT3 hn (by simpa using hij) (by simpa using him) (by simpa using hjm) hi hj hm (o_mono (h (M.nb1 nb) xk.l.here) fun x e => (h2 x).go nb xk e (by rw [wipeC_set hjk, wipeC_set hjj, wipeC_set hji])))
/-! texts -/
end
section
variable {tx : XC → Addr} {Y : YC} {Γ : List Cell} {ta : TE}
theorem w_intB {k : Int → Prop} (h : R Y ta Γ dBool fun b => k (if b then 1 else 0)) : W Y (tCB (fun xs H Q => (∃ i, xs = [.int i] ∧ Q (.int i) H) ∨ ∃ k, xs = [.bl k] ∧ Q (.int (if k then 1 else 0)) H) (tCons ta tNil)) Γ dInt k := fun e F σ H s Q q => h e F σ H s _ fun v F' H' x kx g r => by
  cases (show v = .bl x from r)
  exact .inr ⟨x, rfl, q _ F' H' _ kx g rfl⟩
theorem we_intB {m : M Bool} (h : Re tx Y ta Γ dBool m) : We tx Y (tCB (fun xs H Q => (∃ i, xs = [.int i] ∧ Q (.int i) H) ∨ ∃ k, xs = [.bl k] ∧ Q (.int (if k then 1 else 0)) H) (tCons ta tNil)) Γ dInt (m >>= fun b => .ok (if b then (1 : Int) else 0)) := we_p1 (f := fun b : Bool => if b then (1 : Int) else 0) (fun k h => w_intB h) h
end
section
variable {tx : XC → Addr} {Y : YC} {Γ : List Cell} {tl : TA} {g : TG} {α β τ : Type} {d : Dat α} {K : Kt τ} {rest : TS} {js : List Nat}
end
end G

noncomputable section
/-! M47: [*xs, y, z]; tuple(xs) as a pair. -/
namespace G
open PySem PySem.Spec PyProof.Rows L2 PySem.W ClX StX
section
variable {tx : XC → Addr} {Y : YC} {Γ : List Cell} {te ta tb : TE} {α : Type} {d : Dat α}
end
end G

noncomputable section
/-! M48: while (x := ..) != y; t3[:2]. -/
namespace G
open PySem PySem.Spec PyProof.Rows L2 PySem.W
section
variable {tx : XC → Addr} {Y : YC} {Γ : List Cell} {te : TE} {i j : Nat} {α β γ : Type} {d1 : Dat α} {d2 : Dat β} {d3 : Dat γ}
variable {d : Dat α} {τ : Type} {rest : TS} {js : List Nat} {K : Kt τ} {k : Ks}
end
end G
end

noncomputable section
/-! M49: None or owned data; return (a, xs) as plain data, xs owned; list(x) of plain data. -/
namespace G
open PySem PySem.Spec PyProof.Rows L2 PySem.W
/-- None, or what is owned -/
@[reducible] def oOpt {α : Type} {d : Dat α} (od : @OD α d) : @OD (Opt α) (dOpt (d := d)) := @OD.mk (Opt α) (dOpt (d := d))
  (fun C F v x L => match x with | .none => v = .non ∧ L = [] | .some y => od.orep C F v y L)
  (fun {C F F' v x L} s h => match x, h with | .none, h => h | .some _, h => od.omono s h)
  (fun {C F H v x L} h s k => match x, h with | .none, h => h.1 | .some _, h => od.view h s k)
section
variable {tx : XC → Addr} {Y : YC} {Γ : List Cell} {te ta : TE} {i : Nat} {α β τ : Type} {d : Dat α} {od : @OD α d} {ts rest : TS} {js : List Nat} {K : Kt τ}
end
/-! plain data without lists, plain data whose lists are owned -/
mutual
theorem OUr.imm {C : GCtx} {F H : Hp} (t : ∀ a xs, H a = some (.tup xs) → F a = some (.tup xs)) : ∀ (x : PyData) (v : V) (L : LO), OUr C H x v L → OUr C F x v L
  | .none, _, _, h => h
  | .bool _, _, _, h => h
  | .int _, _, _, h => h
  | .str _, _, _, h => h
  | .list ds, _, _, ⟨a, vs, L', e, e2, r⟩ => ⟨a, vs, L', e, e2, OUrs.imm t ds vs L' r⟩
  | .tuple ds, _, L, ⟨a, vs, e, h, r⟩ => ⟨a, vs, e, h.imp (t a vs) id, OUrs.imm t ds vs L r⟩
  | .dict _, _, _, h => h.elim
theorem OUrs.imm {C : GCtx} {F H : Hp} (t : ∀ a xs, H a = some (.tup xs) → F a = some (.tup xs)) : ∀ (xs : List PyData) (vs : List V) (L : LO), OUrs C H xs vs L → OUrs C F xs vs L
  | [], [], _, h => h
  | d :: ds, v :: vs, _, ⟨L1, L2, e, h1, h2⟩ => ⟨L1, L2, e, OUr.imm t d v L1 h1, OUrs.imm t ds vs L2 h2⟩
  | [], _ :: _, _, h => h.elim
  | _ :: _, [], _, h => h.elim
end
instance oimU : @OIm PyData dU oU := @OIm.mk PyData dU oU fun t h => OUr.imm t _ _ _ h
instance udUI : @UD PyData dUI := @UD.mk PyData dUI (fun x => x) fun h => h.2
instance ouUI : @OU PyData dUI := @OU.mk PyData dUI (fun x => if noL x then some x else none) fun {C F v x y} h r => by
  split at h
  · cases h
    exact ⟨by assumption, r⟩
  · cases h
section
variable {tx : XC → Addr} {Y : YC} {Γ : List Cell} {te : TE}
end
end G
end

noncomputable section
/-! M50: xs < ys of data in one order. -/
namespace G
open PySem PySem.Spec PyProof.Rows L2 PySem.W
section
variable {X : Cx} {K : PySem.W.Frag}
end
section
variable {tx : XC → Addr} {Y : YC} {Γ : List Cell} {ta tb : TE} {α : Type} {d : Dat α}
end
end G
end

noncomputable section
/-! M51: None or data, read as the data. -/
namespace G
open PySem PySem.Spec PyProof.Rows L2 PySem.W
section
variable {tx : XC → Addr} {Y : YC} {Γ : List Cell} {te : TE} {α : Type} {d : Dat α}
end
end G
end

noncomputable section
/-! M52: list(xs) of an owned name whose items are frozen. -/
namespace G
open PySem PySem.Spec PyProof.Rows L2 PySem.W
section
variable {tx : XC → Addr} {Y : YC} {Γ : List Cell} {i : Nat} {α : Type} {d : Dat α}
end
end G
end

noncomputable section
/-! M53: xs.clear(). -/
namespace G
open PySem PySem.Spec PyProof.Rows L2 PySem.W
end G
end

noncomputable section
/-! M54: dicts keyed by tuples of ints. -/
namespace G
open PySem PySem.Spec PyProof.Rows L2 PySem.W
/-- what may be a key: tuples of ints -/
class KeyD (κ : Type) (d : Dat κ) where
  key : κ → List L2.Key
  inj : ∀ {a b : κ}, key a = key b → a = b
  rd : ∀ {C : GCtx} {F : Hp} {v : V} {k : κ}, d.rep C F v k → ∃ a, v = .ref a ∧ F a = some (.tup ((key k).map kV))
theorem tpa_int {K : Frag} {F : Hp} {a : Addr} {xs : List V} (h : TpA K F a xs) (n : xs = [] ∨ ∃ i, V.int i ∈ xs) : F a = some (.tup xs) := by
  rcases h with h | ⟨_, h1, h2⟩
  · exact h
  · rcases n with n | ⟨i, n⟩
    · exact absurd n h1
    · obtain ⟨t, z⟩ := h2 _ n
      cases z
instance kyPair : KeyD (Int × Int) (dPair (d1 := dInt) (d2 := dInt)) where
  key p := [Sum.inl p.1, Sum.inl p.2]
  inj := by
    intro a b h
    simp only [List.cons.injEq, Sum.inl.injEq, and_true] at h
    exact Prod.ext h.1 h.2
  rd := fun ⟨a, v1, v2, e, h, r1, r2⟩ => by
    cases (show v1 = .int _ from r1)
    cases (show v2 = .int _ from r2)
    exact ⟨a, e, tpa_int h (.inr ⟨_, List.mem_cons_self⟩)⟩
instance kyTup : KeyD (Tup Int) (dTup (d := dInt)) where
  key t := t.l.map Sum.inl
  inj := by
    intro a b h
    obtain ⟨a⟩ := a
    obtain ⟨b⟩ := b
    have inj : ∀ {a b : List Int}, a.map (Sum.inl : Int → L2.Key) = b.map Sum.inl → a = b := by
      intro a
      induction a with
      | nil => intro b h; cases b with | nil => rfl | cons => cases h
      | cons x a ih =>
        intro b h
        cases b with
        | nil => cases h
        | cons y b =>
          rw [List.map_cons, List.map_cons, List.cons.injEq] at h
          rw [Sum.inl.inj h.1, ih h.2]
    have e : a = b := inj h
    subst e
    rfl
  rd := fun {C F v k} ⟨a, vs, e, h, r⟩ => by
    have e2 := r.ints
    subst e2
    refine ⟨a, e, ?_⟩
    have : ((k.l.map Sum.inl : List L2.Key)).map kV = k.l.map V.int := by rw [List.map_map]; rfl
    rw [this]
    refine tpa_int h ?_
    cases k.l with
    | nil => exact .inl rfl
    | cons i l => exact .inr ⟨i, by simp⟩
structure DK (κ α : Type) where
  kv : List (κ × α)
def lkD {κ α : Type} [DecidableEq κ] : List (κ × α) → κ → Option α
  | [], _ => none
  | p :: r, k => if p.1 = k then some p.2 else lkD r k
def putD {κ α : Type} [DecidableEq κ] (kv : List (κ × α)) (k : κ) (v : α) : List (κ × α) := if (lkD kv k).isSome then kv.map (fun p => if p.1 = k then (p.1, v) else p) else kv ++ [(k, v)]
def TReps {κ β : Type} {dk : Dat κ} (ky : KeyD κ dk) (d : Dat β) (C : GCtx) (F : Hp) : List (List L2.Key × V) → List (κ × β) → Prop
  | [], [] => True
  | p :: ps, x :: xs => p.1 = ky.key x.1 ∧ d.rep C F p.2 x.2 ∧ TReps ky d C F ps xs
  | _, _ => False
section
variable {κ α : Type} [DecidableEq κ] {dk : Dat κ} {ky : KeyD κ dk} {d : Dat α} {C : GCtx} {F F' : Hp}
theorem TReps.mono (s : Same F F') : ∀ {ps : List (List L2.Key × V)} {xs : List (κ × α)}, TReps ky d C F ps xs → TReps ky d C F' ps xs
  | [], [], _ => trivial
  | _ :: _, _ :: _, h => ⟨h.1, d.mono s h.2.1, TReps.mono s h.2.2⟩
  | [], _ :: _, h => h.elim
  | _ :: _, [], h => h.elim
theorem TReps.len : ∀ {ps : List (List L2.Key × V)} {xs : List (κ × α)}, TReps ky d C F ps xs → ps.length = xs.length
  | [], [], _ => rfl
  | _ :: _, _ :: _, h => by simp [TReps.len h.2.2]
  | [], _ :: _, h => h.elim
  | _ :: _, [], h => h.elim
theorem TReps.look : ∀ {ps : List (List L2.Key × V)} {xs : List (κ × α)} (k : κ), TReps ky d C F ps xs → (∀ x, lkD xs k = some x → ∃ v, valV ps (ky.key k) = some v ∧ d.rep C F v x) ∧ (lkD xs k = none → valV ps (ky.key k) = none)
  | [], [], k, _ => ⟨fun _ h => (nomatch h), fun _ => rfl⟩
  | p :: ps, x :: xs, k, h => by
    rw [valV_cons, h.1]
    unfold lkD
    by_cases hk : x.1 = k
    · rw [if_pos hk, if_pos (by rw [hk])]
      exact ⟨fun y e => ⟨p.2, rfl, by cases e; exact h.2.1⟩, fun z => (nomatch z)⟩
    · rw [if_neg hk, if_neg (fun z => hk (ky.inj z))]
      exact TReps.look k h.2.2
  | [], _ :: _, _, h => h.elim
  | _ :: _, [], _, h => h.elim
theorem TReps.snoc {v : V} {x : α} {k : κ} : ∀ {ps : List (List L2.Key × V)} {xs : List (κ × α)}, TReps ky d C F ps xs → d.rep C F v x → TReps ky d C F (ps ++ [(ky.key k, v)]) (xs ++ [(k, x)])
  | [], [], _, h => ⟨rfl, h, trivial⟩
  | _ :: _, _ :: _, h, h2 => ⟨h.1, h.2.1, TReps.snoc h.2.2 h2⟩
  | [], _ :: _, h, _ => h.elim
  | _ :: _, [], h, _ => h.elim
theorem TReps.map_put {v : V} {x : α} {k : κ} : ∀ {ps : List (List L2.Key × V)} {xs : List (κ × α)}, TReps ky d C F ps xs → d.rep C F v x → TReps ky d C F (ps.map fun kv => if kv.1 = ky.key k then (kv.1, v) else kv) (xs.map fun p => if p.1 = k then (p.1, x) else p)
  | [], [], _, _ => trivial
  | p :: ps, y :: ys, h, h2 => by
    rw [List.map_cons, List.map_cons]
    refine ⟨?_, ?_, TReps.map_put h.2.2 h2⟩
    · by_cases e : y.1 = k
      · rw [if_pos e, if_pos (by rw [h.1, e])]; exact h.1
      · rw [if_neg e, if_neg (fun z => e (ky.inj (h.1.symm.trans z)))]; exact h.1
    · by_cases e : y.1 = k
      · rw [if_pos e, if_pos (by rw [h.1, e])]; exact h2
      · rw [if_neg e, if_neg (fun z => e (ky.inj (h.1.symm.trans z)))]; exact h.2.1
  | [], _ :: _, h, _ => h.elim
  | _ :: _, [], h, _ => h.elim
theorem TReps.put {ps : List (List L2.Key × V)} {xs : List (κ × α)} {v : V} {x : α} {k : κ} (h : TReps ky d C F ps xs) (hv : d.rep C F v x) : TReps ky d C F (putK ps (ky.key k) v) (putD xs k x) := by
  unfold putK putD
  have l := h.look k
  rw [valV_any]
  cases q : lkD xs k with
  | none =>
    rw [l.2 q, if_neg (fun z => (nomatch z)), if_neg (fun z => (nomatch z))]
    exact h.snoc hv
  | some y =>
    obtain ⟨w, hw, _⟩ := l.1 y q
    rw [hw]
    exact h.map_put hv
end
@[reducible] def dDK {κ α : Type} {dk : Dat κ} {ky : KeyD κ dk} {d : Dat α} : Dat (DK κ α) := ⟨fun C F v x => ∃ a ps, v = .ref a ∧ Rd F a (.dT ps) ∧ TReps ky d C F ps x.kv, fun {C F F' v x} m ⟨a, ps, e, h, r⟩ => ⟨a, ps, e, Same.rd m h, by
  have mono : ∀ {ps : List (List L2.Key × V)} {xs : List (κ × α)}, TReps ky d C F ps xs → TReps ky d C F' ps xs := by
    intro ps
    induction ps with
    | nil => intro xs h; cases xs with | nil => trivial | cons => exact h.elim
    | cons p ps ih => intro xs h; cases xs with | nil => exact h.elim | cons x xs => exact ⟨h.1, d.mono m h.2.1, ih h.2.2⟩
  exact mono r⟩⟩
theorem TReps.mono' {κ α : Type} {dk : Dat κ} {ky : KeyD κ dk} {d : Dat α} {C : GCtx} {F F' : Hp} (m : Same F F') : ∀ {ps : List (List L2.Key × V)} {xs : List (κ × α)}, TReps ky d C F ps xs → TReps ky d C F' ps xs
  | [], [], _ => trivial
  | _ :: _, _ :: _, h => ⟨h.1, d.mono m h.2.1, TReps.mono' m h.2.2⟩
  | [], _ :: _, h => h.elim
  | _ :: _, [], h => h.elim
@[reducible] def oDK {κ α : Type} {dk : Dat κ} {ky : KeyD κ dk} {d : Dat α} : @OD (DK κ α) (dDK (ky := ky) (d := d)) := @OD.mk (DK κ α) (dDK (ky := ky) (d := d))
  (fun C F v x L => ∃ a ps, v = .ref a ∧ L = [(a, .dT ps)] ∧ TReps ky d C F ps x.kv)
  (fun m ⟨a, ps, e, h, r⟩ => ⟨a, ps, e, h, TReps.mono' m r⟩)
  (fun ⟨a, ps, e, h, r⟩ m k => ⟨a, ps, e, .inl (k (a, .dT ps) (by rw [h]; exact List.mem_cons_self)), TReps.mono' m r⟩)
theorem dgetT {H : Hp} {a b : Addr} {kvs : List (List L2.Key × V)} {k : List L2.Key} (e : Rd H a (.dT kvs)) (eb : H b = some (.tup (k.map kV))) : DGet H a (.ref b) (valV kvs k) := .inr ⟨kvs, k, b, e, rfl, eb, rfl⟩
section
variable {tx : XC → Addr} {Y : YC} {Γ : List Cell} {te ta tb tc tk tv : TE} {κ α τ : Type} [DecidableEq κ] {dk : Dat κ} {ky : KeyD κ dk} {d : Dat α} {js : List Nat} {rest : TS} {K : Kt τ}
theorem w_dgetK {kx : α → Prop} (h : W Y ta Γ (dDK (ky := ky) (d := d)) fun s => R Y tb Γ dk fun x => ∃ y, lkD s.kv x = some y ∧ kx y) : W Y (tDGet ta tb) Γ d kx := fun e F σ H s Q q => h e F σ H s _ fun v1 F1 H1 s1 h1 g1 ⟨a, ps, e2, ha, r⟩ => h1 e F1 σ H1 (s.grow g1) _ fun v2 F2 H2 x ⟨y, hy, kk⟩ g2 r2 => by
  obtain ⟨b, rfl, hb⟩ := ky.rd r2
  subst e2
  obtain ⟨v, hv, rv⟩ := (r.look x).1 y hy
  refine ⟨a, v, rfl, ?_, q _ F2 H2 _ kk (g1.trans0 g2) (d.mono g2.ff rv)⟩
  have := dgetT (k := ky.key x) (Same.rd g2.fh (Same.rd g2.ff ha)) hb
  rw [hv] at this
  exact this
theorem o_dictT0 {kx : DK κ α → Prop} (h : kx ⟨[]⟩) : O Y tDNewT Γ (oDK (ky := ky) (d := d)) kx := fun e F σ H s Q q => fun p hp =>
  q _ F _ _ _ h (s.base.own hp (fun _ z => by cases z)) ⟨p, [], rfl, rfl, trivial⟩
theorem z_dputK {k : Ks} {pin : Option V} {i : Nat} {x : DK κ α} (hi : Γ[i]? = some (.own (dDK (ky := ky) (d := d)) (oDK (ky := ky) (d := d)) pin x)) (h : W Y tv Γ d fun y => R Y tk Γ dk fun n => x.kv.length < PySem.sizeLine ∧ k.nx (Γ.set i (.own (dDK (ky := ky) (d := d)) (oDK (ky := ky) (d := d)) pin ⟨putD x.kv n y⟩))) :
    Z Y (sDPut (tVar i) tk tv) Γ k := fun e F σ H D hM s c => h e F σ H s _ fun w F1 H1 y hy g1 r1 => by
  obtain ⟨v0, e1, r0⟩ := (s.grow g1).own hi
  refine ⟨v0, e1, hy e F1 σ H1 (s.grow g1) _ fun v2 F2 H2 n ⟨hl, kn⟩ g2 r2 => ?_⟩
  obtain ⟨b, rfl, hb⟩ := ky.rd r2
  obtain ⟨v, Li, rest, e2, ⟨a, ps, rfl, rfl, r⟩, kw, f⟩ := ((s.grow g1).grow g2).mut hi
  rw [e1] at e2
  cases (Option.some.inj e2)
  have ha : H2 a = some (.dT ps) := (kw.ow (a, .dT ps) (by simp)).2.1
  refine ⟨a, _, rfl, DPut.t (k := ky.key n) ha hb (by rw [r.len]; exact hl), ?_⟩
  exact c.nx F2 σ _ _ kn (f F2 _ [(a, .dT (putK ps (ky.key n) w))] ⟨putD x.kv n y⟩ (Same.refl F2) (kw.put (fun _ z => by cases z)) ⟨a, _, rfl, rfl, r.put (d.mono g2.ff r1)⟩)
theorem oe_dictT0 : Oe tx Y tDNewT Γ (oDK (ky := ky) (d := d)) (.ok ⟨[]⟩) := fun _ _ => o_dictT0 rfl
theorem we_dgetK {m : M (DK κ α)} {n : M κ} (h : We tx Y ta Γ (dDK (ky := ky) (d := d)) m) (h2 : Re tx Y tb Γ dk n) : We tx Y (tDGet ta tb) Γ d (m >>= fun s => n >>= fun x => M.ofO (lkD s.kv x)) := we_l2 (f := fun (s : DK κ α) (x : κ) => lkD s.kv x) (fun k h => w_dgetK h) h h2
def M.dputK (x : DK κ α) (mk : M κ) (mv : M α) : M (DK κ α) := mv >>= fun y => mk >>= fun n => M.asrt (x.kv.length < PySem.sizeLine) (.ok ⟨putD x.kv n y⟩)
theorem zm_dputK {i : Nat} {pin : Option V} {x : DK κ α} {mk : M κ} {mv : M α} {m2 : DK κ α → M τ} (hi : Γ[i]? = some (.own (dDK (ky := ky) (d := d)) (oDK (ky := ky) (d := d)) pin x)) (hj : i ∈ js) (hv : We tx Y tv Γ d mv) (hk : Re tx Y tk Γ dk mk) (h2 : ∀ y, Zm tx Y js rest (Γ.set i (.own (dDK (ky := ky) (d := d)) (oDK (ky := ky) (d := d)) pin y)) K (m2 y)) :
    Zm tx Y js (tSeq (sDPut (tVar i) tk tv) rest) Γ K (M.dputK x mk mv >>= m2) := fun nb xk =>
  z_seq (z_dputK hi (hv.k (M.nb1 nb) xk.l.here fun y e nb3 xk3 => hk.k nb3 xk3 fun n e2 nb4 _ => ⟨M.asrt_nb nb4, (h2 ⟨putD x.kv n y⟩).go nb xk (by unfold M.dputK; rw [e]; show (mk >>= _) = _; rw [e2]; exact M.asrt_pos (M.asrt_nb nb4)) (wipeC_set hj)⟩))
end
end G
end

noncomputable section
/-! M55: lists of owned lists: comprehensions that make them, pop, +=; an item that has been handed in and is still read. -/
namespace G
open PySem PySem.Spec PyProof.Rows L2 PySem.W
section
variable {α β τ : Type} {d : Dat α} {d2 : Dat β} {tx : XC → Addr} {Y : YC} {Γ : List Cell} {ti : _root_.L2.TI} {tt : TT} {te ta tl : TE} {g : TG} {vs : List Nat} {rest ts : TS} {js : List Nat} {K : Kt τ} {k : Ks}
/-! comprehensions -/
/-! two slots at once -/
theorem set_sameO {γ : Type} {σ : List γ} {i : Nat} {o : γ} (e1 : σ[i]? = some o) : σ.set i o = σ := by
  obtain ⟨hlt, hv⟩ := List.getElem?_eq_some_iff.mp e1
  subst hv
  exact List.set_getElem_self hlt
theorem State.two {α1 : Type} {d1 : Dat α1} {e : En} {F : Hp} {σ : _root_.L2.St} {H : Hp} {od1 : @OD α1 d1} {x1 : α1} {c2 : Cell} {j1 j2 : Nat} {p1 : Option V} (s : State Y e F σ H Γ) (hn : j1 ≠ j2) (h1 : Γ[j1]? = some (.own d1 od1 p1 x1)) (h2 : Γ[j2]? = some c2) :
    ∃ v1 o2 L1 L2 rest, σ[j1]? = some (some v1) ∧ σ[j2]? = some o2 ∧ (∀ u, p1 = some u → v1 = u) ∧ od1.orep Y.g F v1 x1 L1 ∧ CellOk Y.g F o2 c2 L2 ∧ Wk e F ((L1 ++ L2) ++ rest) H ∧
    ∀ F' H' o2' c1' c2' L1' L2', Same F F' → Wk e F' ((L1' ++ L2') ++ rest) H' → CellOk Y.g F' (some v1) c1' L1' → CellOk Y.g F' o2' c2' L2' → State Y e F' (σ.set j2 o2') H' ((Γ.set j1 c1').set j2 c2') := by
  obtain ⟨hx, L, k, sl⟩ := s
  obtain ⟨o, A1, Li1, A2, e1, e2, ⟨v1, rfl, hp1, r1⟩, f⟩ := sl.get h1
  subst e2
  have sl1 := f F (some v1) .no [] (Same.refl _) rfl
  rw [set_same e1] at sl1
  have h2' : (Γ.set j1 .no)[j2]? = some c2 := by rw [List.getElem?_set_ne hn]; exact h2
  obtain ⟨o2, B1, Li2, B2, e3, e4, r2, g⟩ := sl1.get h2'
  have e4' : A1 ++ A2 = B1 ++ Li2 ++ B2 := by simpa using e4
  have pm : (A1 ++ Li1 ++ A2).Perm ((Li1 ++ Li2) ++ (B1 ++ B2)) := by
    have q1 : (A1 ++ Li1 ++ A2).Perm (Li1 ++ (A1 ++ A2)) := by
      have := (List.perm_append_comm (l₁ := A1) (l₂ := Li1)).append_right A2
      simpa [List.append_assoc] using this
    have q2 : (B1 ++ Li2 ++ B2).Perm (Li2 ++ (B1 ++ B2)) := by
      have := (List.perm_append_comm (l₁ := B1) (l₂ := Li2)).append_right B2
      simpa [List.append_assoc] using this
    rw [e4'] at q1
    have q3 := q1.trans (q2.append_left Li1)
    simpa [List.append_assoc] using q3
  refine ⟨v1, o2, Li1, Li2, B1 ++ B2, e1, e3, hp1, r1, r2, k.perm2 pm, fun F' H' o2' c1' c2' L1' L2' s' k' r1' r2' => ?_⟩
  have sl2 := g F' o2' c2' L2' s' r2'
  have hlt : j1 < Γ.length := (List.getElem?_eq_some_iff.mp h1).1
  have h3 : ((Γ.set j1 .no).set j2 c2')[j1]? = some .no := by
    rw [List.getElem?_set_ne (Ne.symm hn), List.getElem?_set_self hlt]
  obtain ⟨o3, C1, Lz, C2, e5, e6, hz, q⟩ := sl2.get h3
  have hz : Lz = [] := hz
  subst hz
  have sl3 := q F' (some v1) c1' L1' (Same.refl _) r1'
  rw [set_same (by rw [List.getElem?_set_ne (Ne.symm hn)]; exact e1)] at sl3
  have eΓ : ((Γ.set j1 .no).set j2 c2').set j1 c1' = (Γ.set j1 c1').set j2 c2' := by
    rw [set_set_ne hn, List.set_set, set_set_ne (Ne.symm hn)]
  rw [eΓ] at sl3
  refine ⟨hx, C1 ++ L1' ++ C2, k'.perm2 ?_, sl3⟩
  have e6' : B1 ++ L2' ++ B2 = C1 ++ C2 := by simpa using e6
  have q2' : (L2' ++ (B1 ++ B2)).Perm (B1 ++ L2' ++ B2) := by
    have := (List.perm_append_comm (l₁ := B1) (l₂ := L2')).append_right B2
    simpa [List.append_assoc] using this.symm
  rw [e6'] at q2'
  have q3 : (L1' ++ (C1 ++ C2)).Perm (C1 ++ L1' ++ C2) := by
    have := (List.perm_append_comm (l₁ := C1) (l₂ := L1')).append_right C2
    simpa [List.append_assoc] using this.symm
  have := (q2'.append_left L1').trans q3
  simpa [List.append_assoc] using this
/-! an item handed in and still read: the list with its item v0, which stands for y -/
@[reducible] def dRaw (v0 : V) : Dat Unit := ⟨fun _ _ v _ => v = v0, fun _ h => h⟩
@[reducible] def dAl (v0 : V) (y : α) : Dat (List α) := ⟨fun C F v xs => (dList (d := d)).rep C F v xs ∧ d.rep C F v0 y, fun s h => ⟨(dList (d := d)).mono s h.1, d.mono s h.2⟩⟩
theorem Reps.zipV {C : GCtx} {F : Hp} {v : V} {y : α} : ∀ {vs : List V} {xs : List α}, Reps d C F vs xs → (v, y) ∈ vs.zip xs → d.rep C F v y
  | [], [], _, h => nomatch h
  | u :: us, x :: xs, r, h => by
    rw [List.zip_cons_cons] at h
    rcases List.mem_cons.mp h with e | h
    · cases e; exact r.1
    · exact Reps.zipV r.2 h
  | [], _ :: _, r, _ => r.elim
  | _ :: _, [], r, _ => r.elim
@[reducible] def oAl (v0 : V) (y : α) (od : @OD α d) : @OD (List α) (dAl (d := d) v0 y) := @OD.mk (List α) (dAl (d := d) v0 y)
  (fun C F v xs L => ∃ a vs L', v = .ref a ∧ L = (a, .lst vs) :: L' ∧ OReps od C F vs xs L' ∧ (v0, y) ∈ vs.zip xs)
  (fun m ⟨a, vs, L', e, h, r, z⟩ => ⟨a, vs, L', e, h, r.mono m, z⟩)
  (fun ⟨a, vs, L', e, h, r, z⟩ m k => by
    have r2 := r.view m fun p hp => k p (by rw [h]; exact List.mem_cons_of_mem _ hp)
    exact ⟨(oDeep od).view ⟨a, vs, L', e, h, r⟩ m k, Reps.zipV r2 z⟩)
end
end G
end

noncomputable section
/-! M56: defs that change one of their arguments and hand it back within their result: frozen for the caller from then on. -/
namespace G
open PySem PySem.Spec PyProof.Rows L2 PySem.W
@[reducible] def dPin {α : Type} (u : V) (d : Dat α) : Dat α := ⟨fun C F v x => v = u ∧ d.rep C F v x, fun s h => ⟨h.1, d.mono s h.2⟩⟩
section
variable {tx : XC → Addr} {Y : YC} {Γ : List Cell} {te : TE} {tl : TA} {α β τ σ : Type} {d : Dat α} {rest ts : TS} {js : List Nat} {K : Kt τ} {k : Ks}
theorem State.mutC {e : En} {F : Hp} {σ : _root_.L2.St} {H : Hp} {od : @OD α d} {x : α} {i : Nat} {pin : Option V} (s : State Y e F σ H Γ) (h : Γ[i]? = some (.own d od pin x)) : ∃ v Li rest, σ[i]? = some (some v) ∧ (∀ u, pin = some u → v = u) ∧ od.orep Y.g F v x Li ∧ Wk e F (Li ++ rest) H ∧
    ∀ F' H' Li' c', Same F F' → Wk e F' (Li' ++ rest) H' → CellOk Y.g F' (some v) c' Li' → State Y e F' σ H' (Γ.set i c') := by
  obtain ⟨hx, L, k, sl⟩ := s
  obtain ⟨o, L1, Li, L2, e1, e2, ⟨v, rfl, hp, r⟩, f⟩ := sl.get h
  subst e2
  refine ⟨v, Li, L1 ++ L2, e1, hp, r, k.front, fun F' H' Li' c' s' k' r' => ⟨hx, L1 ++ Li' ++ L2, k'.back, ?_⟩⟩
  have q := f F' (some v) c' Li' s' r'
  rw [set_sameO e1] at q
  exact q
end
end G
end

noncomputable section
/-! M57: pairs of owned things hold nothing that is frozen for a borrowing alone. -/
namespace G
open PySem PySem.Spec PyProof.Rows L2 PySem.W
instance mPair {α β : Type} {d1 : Dat α} {d2 : Dat β} {od1 : @OD α d1} {od2 : @OD β d2} [i1 : @OIm α d1 od1] [i2 : @OIm β d2 od2] : @OIm (α × β) (dPair (d1 := d1) (d2 := d2)) (oPair od1 od2) :=
  @OIm.mk (α × β) (dPair (d1 := d1) (d2 := d2)) (oPair od1 od2) fun t ⟨a, v1, v2, L1, L2, e, h, tp, r1, r2⟩ => ⟨a, v1, v2, L1, L2, e, h, tp.imp (t a _) id, i1.oimm t r1, i2.oimm t r2⟩
end G
end

noncomputable section
/-! M58: {key: value for ..} with keys tuples of ints (the walk follows the library's own for other keys, the store's step is the tuples' one). -/
namespace G
open PySem PySem.Spec PyProof.Rows L2 PySem.W
section
variable {X : Cx}
end
section
variable {tx : XC → Addr} {Y : YC} {Γ : List Cell} {te ta tb tl tk tv : TE} {t u tt : TT} {α β κ : Type} [DecidableEq κ] {dk : Dat κ} {ky : KeyD κ dk} {d : Dat α} {d2 : Dat β} {g : TG}
end
end G
end

noncomputable section
/-! M59: an owned dict keyed by tuples is locked for good (nothing writes it any more); walks over its keys. -/
namespace G
open PySem PySem.Spec PyProof.Rows L2 PySem.W
def tLockP (t : TS) : TS := fun D σ H => ∃ d kvs, H d = some (.dT kvs) ∧ ∀ od, t D σ (upd H d (.frz od (.dT kvs)))
theorem ps_lockP {X : Cx} {st : Stmt} {t : TS} (h : PS X st t) : PS X st (tLockP t) := by
  refine ⟨fun pins s σ H D I hw => ?_⟩
  obtain ⟨d, kvs, hd, hw⟩ := hw
  obtain ⟨od, I1⟩ := I.lock hd True.intro
  exact h.run pins s σ _ _ I1 (hw od)
class KeyB (κ : Type) (dk : Dat κ) (ky : KeyD κ dk) where
  bk : ∀ {C : GCtx} {F : Hp} {q : Addr} {k : κ}, F q = some (.tup ((ky.key k).map kV)) → dk.rep C F (.ref q) k
instance kbPair : KeyB (Int × Int) (dPair (d1 := dInt) (d2 := dInt)) kyPair where
  bk := fun {C F q k} h => ⟨q, .int k.1, .int k.2, rfl, .inl h, rfl, rfl⟩
theorem TReps.getV {κ β : Type} {dk : Dat κ} {ky : KeyD κ dk} {d : Dat β} {C : GCtx} {F : Hp} {k : List L2.Key} {v : V} : ∀ {ps : List (List L2.Key × V)} {xs : List (κ × β)} {i : Nat}, TReps ky d C F ps xs → ps[i]? = some (k, v) → ∃ x, xs[i]? = some x ∧ k = ky.key x.1 ∧ d.rep C F v x.2
  | [], [], i, _, e => by simp at e
  | p :: ps, x :: xs, 0, h, e => ⟨x, rfl, by cases (Option.some.inj e); exact h.1, by cases (Option.some.inj e); exact h.2.1⟩
  | p :: ps, x :: xs, i + 1, h, e => TReps.getV (i := i) h.2.2 e
  | [], _ :: _, _, h, _ => h.elim
  | _ :: _, [], _, h, _ => h.elim
theorem TReps.len' {κ β : Type} {dk : Dat κ} {ky : KeyD κ dk} {d : Dat β} {C : GCtx} {F : Hp} : ∀ {ps : List (List L2.Key × V)} {xs : List (κ × β)}, TReps ky d C F ps xs → ps.length = xs.length
  | [], [], _ => rfl
  | _ :: _, _ :: _, h => by simp [TReps.len' h.2.2]
  | [], _ :: _, h => h.elim
  | _ :: _, [], h => h.elim
/-- a locked dict -/
@[reducible] def dKL {κ α : Type} {dk : Dat κ} {ky : KeyD κ dk} {d : Dat α} : Dat (DK κ α) := ⟨fun C F v x => ∃ a o ps, v = .ref a ∧ F a = some (.frz o (.dT ps)) ∧ TReps ky d C F ps x.kv, fun m ⟨a, o, ps, e, h, r⟩ => ⟨a, o, ps, e, m _ _ h, TReps.mono' m r⟩⟩
@[reducible] def oKL {κ α : Type} {dk : Dat κ} {ky : KeyD κ dk} {d : Dat α} : @OD (DK κ α) (dKL (ky := ky) (d := d)) := @OD.mk (DK κ α) (dKL (ky := ky) (d := d))
  (fun C F v x L => ∃ a o ps, v = .ref a ∧ L = [(a, .frz o (.dT ps))] ∧ TReps ky d C F ps x.kv)
  (fun m ⟨a, o, ps, e, h, r⟩ => ⟨a, o, ps, e, h, TReps.mono' m r⟩)
  (fun ⟨a, o, ps, e, h, r⟩ m k => ⟨a, o, ps, e, k (a, .frz o (.dT ps)) (by rw [h]; exact List.mem_cons_self), TReps.mono' m r⟩)
section
variable {tx : XC → Addr} {Y : YC} {Γ : List Cell} {te ta tb tl tk tv : TE} {t : TS} {κ α τ : Type} {dk : Dat κ} {ky : KeyD κ dk} {d : Dat α} {js : List Nat} {rest : TS} {K : Kt τ}
theorem we_hH {m : M (DK κ α)} (h : We tx Y te Γ (dKL (ky := ky) (d := d)) m) : We tx Y te Γ (dDK (ky := ky) (d := d)) m := fun nb xk e F σ H s Q q => h nb xk e F σ H s Q fun v F' H' x hx g ⟨a, o, ps, e1, ha, r⟩ => q v F' H' x hx g ⟨a, ps, e1, .inr ⟨o, ha⟩, r⟩
theorem z_lock {k : Ks} {pin : Option V} {i : Nat} {x : DK κ α} (hi : Γ[i]? = some (.own (dDK (ky := ky) (d := d)) (oDK (ky := ky) (d := d)) pin x)) (h : Z Y t (Γ.set i (.val (dKL (ky := ky) (d := d)) x)) k) : Z Y (tLockP t) Γ k := fun e F σ H D hM s c => by
  obtain ⟨v, Li, rest, e1, _, ⟨a, ps, rfl, rfl, r⟩, kw, f⟩ := s.mutC hi
  refine ⟨a, ps, (kw.ow (a, .dT ps) (by simp)).2.1, fun od => ?_⟩
  have s1 := f F _ [(a, .frz od (.dT ps))] (.own (dKL (ky := ky) (d := d)) (oKL (ky := ky) (d := d)) none x) (Same.refl F) (kw.put (fun _ z => by cases z)) ⟨.ref a, rfl, (fun _ z => by cases z), a, od, ps, rfl, rfl, r⟩
  have hi2 : (Γ.set i (.own (dKL (ky := ky) (d := d)) (oKL (ky := ky) (d := d)) none x))[i]? = some (.own (dKL (ky := ky) (d := d)) (oKL (ky := ky) (d := d)) none x) := by
    rw [List.getElem?_set_self (List.getElem?_eq_some_iff.mp hi).1]
  obtain ⟨F', sm, s2⟩ := s1.frz hM hi2
  rw [List.set_set] at s2
  exact h e F' σ _ D hM s2 c
theorem zm_lock {m : M τ} {x : DK κ α} {pin : Option V} (i : Nat) (hi : Γ[i]? = some (.own (dDK (ky := ky) (d := d)) (oDK (ky := ky) (d := d)) pin x)) (hj : i ∈ js) (h : Zm tx Y js (tSeq t rest) (Γ.set i (.val (dKL (ky := ky) (d := d)) x)) K m) :
    Zm tx Y js (tSeq (tLockP t) rest) Γ K m := fun nb xk => by
  have z : Z Y (tLockP (tSeq t rest)) Γ (K.ks m) := z_lock hi (h nb (xk.w (wipeC_set hj)))
  exact z
variable [kb : KeyB κ dk ky]
theorem z_forKT {g : TG} {ts : TS} {k : Ks} {tl : TE} (h : W Y tl Γ (dKL (ky := ky) (d := d)) fun s => Body Y g ts dk k (fun i => (s.kv.map Prod.fst)[i]?) (s.kv.map Prod.fst).length Γ) : Z Y (tFor (iKeys tl) g ts) Γ k := fun e F σ H D hM s c => h e F σ H s _ fun v F1 H1 s0 ⟨I, h0, hs, hd⟩ g1 ⟨a, o, ps, e1, ha, r⟩ => by
  subst e1
  have s1 := s.grow g1
  obtain ⟨hx1, L1, kw1, _⟩ := id s1
  have c1 := c.into hx1 kw1
  refine ⟨a, o, rfl, .inr ⟨ps, g1.fh _ _ ha, for_it walk_keysT (fun i σ H => ∃ F' Γ', State Y ⟨F1, e.H0, e.M⟩ F' σ H Γ' ∧ I i Γ') ⟨F1, Γ, s1.into, h0⟩ (fun i σ H _ ⟨F', Γ', st, _⟩ => (st.ff.trans st.fh) _ _ ha) (fun i x σ H H' hi ⟨F', Γ', st, hI⟩ ⟨eH, k', v', q, hk, ex, hq⟩ => ?_) fun σ H ⟨F', Γ', st, hI⟩ => ?_⟩⟩
  · subst eH ex
    obtain ⟨y, hy, ek, _⟩ := r.getV hk
    subst ek
    obtain ⟨_, _, kw, _⟩ := id st
    refine hs i y.1 Γ' (by show (s0.kv.map Prod.fst)[i]? = _; rw [List.getElem?_map, hy]; rfl) hI _ F' σ H' (.ref q) st (kb.bk (kw.tp _ _ hq)) _ fun σ2 Γ2 h2 st2 => ?_
    exact h2 ⟨F1, e.H0, e.M⟩ F' σ2 H' _ hM st2 ⟨fun F3 σ3 H3 Γ3 k3 st3 => ⟨F3, Γ3, st3, k3⟩, c1.rt, c1.nx, fun F3 σ3 H3 Γ3 k3 st3 => ⟨F3, Γ3, st3, k3⟩⟩
  · rw [r.len', ← List.length_map (f := Prod.fst)] at hI
    exact c1.nx F' σ H Γ' (hd Γ' hI) st
theorem ie_keysT {m : M (DK κ α)} (h : We tx Y tl Γ (dKL (ky := ky) (d := d)) m) : Ie tx Y (iKeys tl) Γ dk (m >>= fun s => .ok (s.kv.map Prod.fst)) := fun nb xk g ts k hb => z_forKT (h.k nb xk fun s e _ _ => hb (s.kv.map Prod.fst) (by rw [e]; rfl))
end
end G
end

noncomputable section
/-! M60: a return of three owned locals. -/
namespace G
open PySem PySem.Spec PyProof.Rows L2 PySem.W
theorem permV {α : Type} {L1 Li L2 M1 Mi M2 N1 Ni N2 : List α} (e4 : L1 ++ [] ++ L2 = M1 ++ Mi ++ M2) (e6 : M1 ++ [] ++ M2 = N1 ++ Ni ++ N2) : (L1 ++ Li ++ L2).Perm ((Li ++ (Mi ++ Ni)) ++ (N1 ++ [] ++ N2)) := by
  classical
  rw [List.perm_iff_count]
  intro a
  have h1 := congrArg (List.count a) e4
  have h2 := congrArg (List.count a) e6
  simp only [List.count_append, List.count_nil] at h1 h2 ⊢
  omega
section
variable {Y : YC} {Γ : List Cell} {k : Ks} {α β γ : Type} {d1 : Dat α} {d2 : Dat β} {d3 : Dat γ}
theorem z_retT3V {od1 : @OD α d1} {od2 : @OD β d2} {od3 : @OD γ d3} {i j m : Nat} {x : α} {y : β} {z : γ} (hij : i ≠ j) (him : i ≠ m) (hjm : j ≠ m) (hi : Γ[i]? = some (.own d1 od1 none x)) (hj : Γ[j]? = some (.own d2 od2 none y)) (hm : Γ[m]? = some (.own d3 od3 none z))
    (h : k.rt (.own (dT3 (d1 := d1) (d2 := d2) (d3 := d3)) (oT3 od1 od2 od3) none ⟨x, y, z⟩) (((Γ.set i .no).set j .no).set m .no)) : Z Y (tRet (tTup (tCons (tVar i) (tCons (tVar j) (tCons (tVar m) tNil))))) Γ k := fun e F σ H D hM s c => by
  obtain ⟨hx, L, k0, sl⟩ := id s
  obtain ⟨o, L1, Li, L2, e1, e2, ⟨u, rfl, _, r⟩, f⟩ := sl.get hi
  subst e2
  have sl2 := f F (some u) .no [] (Same.refl F) rfl
  obtain ⟨o', M1, Mi, M2, e3, e4, ⟨v, rfl, _, r2⟩, f2⟩ := sl2.get (i := j) (by rw [List.getElem?_set_ne hij]; exact hj)
  have sl3 := f2 F (some v) .no [] (Same.refl F) rfl
  obtain ⟨o'', N1, Ni, N2, e5, e6, ⟨w, rfl, _, r3⟩, f3⟩ := sl3.get (i := m) (by rw [List.getElem?_set_ne hjm, List.getElem?_set_ne him]; exact hm)
  have sl4 := f3 F (some w) .no [] (Same.refl F) rfl
  rw [List.getElem?_set_ne hij] at e3
  rw [List.getElem?_set_ne hjm, List.getElem?_set_ne him] at e5
  refine ⟨u, e1, v, e3, w, e5, show (3 : Nat) ≤ PySem.sizeLine by decide, fun p hp => ?_⟩
  have g := Gr.lay (o := .tup [u, v, w]) s.base hp
  have kw := k0.trans0 g
  exact c.rt _ _ _ _ (.ref p) _ (Li ++ (Mi ++ Ni)) (N1 ++ [] ++ N2) h (kw.perm (permV e4 e6)) ⟨.ref p, rfl, fun _ z => (nomatch z), p, u, v, w, Li, Mi, Ni, rfl, rfl, .inl upd_same, od1.omono g.ff r, od2.omono g.ff r2, od3.omono g.ff r3⟩ (sl4.mono g.ff)
end
section
variable {tx : XC → Addr} {Y : YC} {Γ : List Cell} {α β γ : Type} {d1 : Dat α} {d2 : Dat β} {d3 : Dat γ} {rest : TS} {js : List Nat}
theorem zm_retT3V {od1 : @OD α d1} {od2 : @OD β d2} {od3 : @OD γ d3} {cell : T3 α β γ → Cell} {i j m : Nat} {x : α} {y : β} {z : γ} (hij : (i == j) = false) (him : (i == m) = false) (hjm : (j == m) = false) (hi : Γ[i]? = some (.own d1 od1 none x)) (hj : Γ[j]? = some (.own d2 od2 none y)) (hm : Γ[m]? = some (.own d3 od3 none z)) (hc : cell = fun r => .own (dT3 (d1 := d1) (d2 := d2) (d3 := d3)) (oT3 od1 od2 od3) none r := by rfl) :
    Zm tx Y js (tSeq (tRet (tTup (tCons (tVar i) (tCons (tVar j) (tCons (tVar m) tNil))))) rest) Γ (KF cell) (.ok ⟨x, y, z⟩) := fun nb xk => by
  subst hc
  exact z_retT3V (k := (KF fun r => Cell.own (dT3 (d1 := d1) (d2 := d2) (d3 := d3)) (oT3 od1 od2 od3) none r).ks (M.ok ⟨x, y, z⟩)) (by simpa using hij) (by simpa using him) (by simpa using hjm) hi hj hm ⟨⟨x, y, z⟩, rfl, rfl⟩
end
/-! if not f(.., xs, ..) -/
section
variable {tx : XC → Addr} {Y : YC} {Γ : List Cell} {tl : TA} {α τ : Type} {d : Dat α} {K : Kt τ} {rest t1 t2 : TS} {js : List Nat}
theorem zm_ifNM1 {od : OD α} {x : α} {j : Nat} {pin : Option V} {sp : Sp} {E : _root_.L2.St → XK} {m : M (Bool × α)} {m2 m3 : Bool × α → M τ} (hj : Γ[j]? = some (.own d od pin x)) (hjj : j ∈ js) (h : Mm tx Y tl Γ m fun l m => Lend1 Y sp dBool od j (.own d od none x) l m)
    (h2 : ∀ p, Zm tx Y js (tSeq t1 rest) (Γ.set j (.own d od pin p.2)) K (m2 p)) (h3 : ∀ p, Zm tx Y js (tSeq t2 rest) (Γ.set j (.own d od pin p.2)) K (m3 p)) :
    Zm tx Y js (tSeq (tIfS (tNot (tB (tCallS sp E tl))) t1 t2) rest) Γ K (M.calm m >>= fun p => if (!p.1) = true then m2 p else m3 p) := fun nb xk => by
  obtain ⟨p, hp⟩ := M.calm_nb (M.nb1 nb)
  intro e F σ H D hM s c
  refine z_callM1 hM s hj (h ⟨p, hp⟩) fun v F' H' r x' em s' hr => ?_
  have ep : p = (r, x') := by rw [hp] at em; cases em; rfl
  subst ep
  cases (show v = .bl r from hr)
  refine ⟨r, rfl, ?_⟩
  cases r with
  | true => exact (h3 (true, x')).go (f := fun p : Bool × α => if (!p.1) = true then m2 p else m3 p) nb xk (by rw [hp]; rfl) (wipeC_set hjj) e F' σ H' D hM s' c
  | false => exact (h2 (false, x')).go (f := fun p : Bool × α => if (!p.1) = true then m2 p else m3 p) nb xk (by rw [hp]; rfl) (wipeC_set hjj) e F' σ H' D hM s' c
end
end G
end

noncomputable section
/-! M61: loops left by a return in defs that change an argument. -/
namespace G
open PySem PySem.Spec PyProof.Rows L2 PySem.W
/-- as KC; what a return leaves is told by rt -/
def KCG {σ ρ : Type} (js' : List Nat) (cells : σ → List Cell) (rt : ρ → Cell → List Cell → Prop) : Kt (Ct σ ρ) := ⟨fun t Γ => ∃ s, t = .nx s ∧ wipeC Γ js' = cells s, fun t c Γ => ∃ r, t = .rt r ∧ rt r c Γ, fun t Γ => ∃ s, t = .bk s ∧ wipeC Γ js' = cells s, fun t Γ => ∃ s, t = .nx s ∧ wipeC Γ js' = cells s⟩
/-- a result, and what stands in the changed -/
def rtM {ρ μ : Type} (cell : ρ → Cell) (chk : μ → List Cell → Prop) : ρ × μ → Cell → List Cell → Prop := fun r c Γ => c = cell r.1 ∧ chk r.2 Γ
section
variable {tx : XC → Addr} {Y : YC} {Γ : List Cell} {js : List Nat} {rest ts : TS} {g : TG} {te : TE} {α β τ σ ρ μ : Type} {d : Dat α} {K : Kt τ}
theorem rt_KFM {cell : ρ → Cell} {chk : μ → List Cell → Prop} : ∀ (r : ρ × μ) (c : Cell) (Γ' : List Cell), rtM cell chk r c Γ' → ∃ t, M.ok r = .ok t ∧ (KFM cell chk).rt t c Γ' := fun r _ _ h => ⟨r, rfl, h⟩
theorem rt_KCG {js' : List Nat} {cells : σ → List Cell} {rt : ρ → Cell → List Cell → Prop} : ∀ (r : ρ) (c : Cell) (Γ' : List Cell), rt r c Γ' → ∃ t, (M.ok (.rt r) : M (Ct σ ρ)) = .ok t ∧ (KCG js' cells rt).rt t c Γ' := fun r _ _ h => ⟨.rt r, rfl, r, rfl, h⟩
theorem zm_forCG {ti : L2.TI} (js' : List Nat) (cells : σ → List Cell) (s0 : σ) {rt : ρ → Cell → List Cell → Prop} {m0 : M (List α)} {f : σ → α → M (Ct σ ρ)} {mr : ρ → M τ} {m2 : σ → M τ} (hw0 : wipeC (wipeC Γ js') js = wipeC Γ js) (h0 : wipeC Γ js' = cells s0) (hw : ∀ s, wipeC (cells s) js = wipeC Γ js) (h : Ie tx Y ti (cells s0) d m0)
    (hb : ∀ s x, A Y g (cells s) d x fun Γ2 => wipeC Γ2 js = wipeC Γ js ∧ Zm tx Y js ts Γ2 (KCG js' cells rt) (f s x)) (hr : ∀ r c Γ', rt r c Γ' → ∃ t, mr r = .ok t ∧ K.rt t c Γ') (h2 : ∀ s, Zm tx Y js rest (cells s) K (m2 s)) : Zm tx Y js (tSeq (tFor ti g ts) rest) Γ K (m0 >>= fun xs => M.foldC f s0 xs >>= fun c => c.go mr m2) := fun nb xk => by
  refine z_wipe js' (by
    rw [h0]
    refine z_seq (h (M.nb1 nb) ((xk.w (hw s0)).l.here) g ts _ fun xs e => ?_)
    have nb1 : (M.foldC f s0 xs >>= fun c => c.go mr m2).nb := M.nb2 (f := fun xs => M.foldC f s0 xs >>= fun c => c.go mr m2) nb e
    have nb2 : (M.foldC f s0 xs).nb := M.nb1 nb1
    -- behind the loop
    have fin : ∀ (s : σ) (c : Ct σ ρ) (Γ' : List Cell), M.foldC f s0 xs = .ok c → (c = .nx s ∨ c = .bk s) → wipeC Γ' js' = cells s → Z Y rest Γ' (K.ks (m0 >>= fun xs => M.foldC f s0 xs >>= fun c => c.go mr m2)) := fun s c Γ' es hc hΓ => by
      refine z_wipe js' ?_
      rw [hΓ]
      have hg : c.go mr m2 = m2 s := by rcases hc with z | z <;> (subst z; rfl)
      have hz := Zm.go (f := fun c : Ct σ ρ => c.go mr m2) (x := c) (show Zm tx Y js rest (cells s) K (c.go mr m2) from by rw [hg]; exact h2 s) (m1 := M.foldC f s0 xs) (Γ := Γ) nb1 (Xk.r (f := fun xs => M.foldC f s0 xs >>= fun c => c.go mr m2) xk e rfl) es (hw s)
      rw [e]
      exact hz
    refine ⟨fun i Γ' => ∃ s, M.foldC f s0 (xs.take i) = .ok (.nx s) ∧ wipeC Γ' js' = cells s, ⟨s0, rfl, by rw [← h0]; exact wipeC_idem Γ js'⟩, fun i x Γ' hx ⟨s, es, hΓ⟩ => ?_, fun Γ' ⟨s, es, hΓ⟩ => ?_⟩
    · have htk : xs.take (i + 1) = xs.take i ++ [x] := by rw [List.take_add_one, show xs[i]? = some x from hx]; rfl
      have hs1 : M.foldC f s0 (xs.take (i + 1)) = f s x := by
        rw [htk, M.foldC_app, es]; show M.foldC f s [x] = _
        simp only [M.foldC]
        cases f s x with
        | bad => rfl
        | exc x => rfl
        | ok c => cases c <;> rfl
      have hall : M.foldC f s0 xs = (f s x >>= fun c => match c with | .nx s' => M.foldC f s' (xs.drop (i + 1)) | c => .ok c) := by
        have : xs = xs.take (i + 1) ++ xs.drop (i + 1) := (List.take_append_drop _ _).symm
        rw [this, M.foldC_app, hs1, ← this]
        all_goals (cases f s x with
        | bad => rfl
        | exc x => rfl
        | ok c => cases c <;> rfl)
      have nb3 : (f s x).nb := fun z => nb2 (by rw [hall, z]; rfl)
      have xk3 : ∀ {Γ2 : List Cell}, wipeC Γ2 js = wipeC Γ js → Xk tx Y js Γ2 (f s x) := fun {Γ2} hΓ2 y ey Γ' e3 => xk y (by rw [e]; show (M.foldC f s0 xs >>= _) = _; rw [hall, ey]; rfl) Γ' (e3.trans hΓ2)
      have hA := hb s x
      rw [← hΓ] at hA
      refine a_wipe js' (a_mono hA fun Γ2 ⟨hΓ2, hz⟩ => ?_)
      refine z_mono (hz nb3 (xk3 hΓ2)) (fun Γ3 ⟨c, e', s', ec, h'⟩ => ⟨s', by rw [hs1, e', ec], h'⟩) (fun c Γ3 ⟨t, e', r, er, hc⟩ => ?_) (fun Γ3 ⟨c, e', s', ec, h'⟩ => ?_) fun Γ3 ⟨c, e', s', ec, h'⟩ => ⟨s', by rw [hs1, e', ec], h'⟩
      · subst er
        obtain ⟨t2, e2, hk⟩ := hr r c Γ3 hc
        exact ⟨t2, by rw [e]; show (M.foldC f s0 xs >>= _) = _; rw [hall, e']; exact e2, hk⟩
      · subst ec
        exact fin s' (.bk s') Γ3 (by rw [hall, e']; rfl) (.inr rfl) h'
    · rw [List.take_length] at es
      exact fin s (.nx s) Γ' es (.inl rfl) hΓ)
section
variable {js' : List Nat} {cells : σ → List Cell} {s : σ} {rt : ρ → Cell → List Cell → Prop}
theorem zm_nextG (h : wipeC Γ js' = cells s) : Zm tx Y js tNext Γ (KCG js' cells rt) (.ok (.nx s)) := fun nb xk => z_next (k := (KCG js' cells rt).ks (M.ok (.nx s))) ⟨.nx s, rfl, s, rfl, h⟩
theorem zm_retG {cell : β → Cell} {dr : Dat β} {chk : μ → List Cell → Prop} {m : M β} {x : μ} (h : We tx Y te Γ dr m) (hx : chk x Γ) (hc : cell = fun r => .val dr r := by rfl) : Zm tx Y js (tSeq (tRet te) rest) Γ (KCG js' cells (rtM cell chk)) (m >>= fun r => .ok (.rt (r, x))) := fun nb xk => by
  subst hc
  exact z_ret (te := te) (k := (KCG js' cells (rtM (fun r => Cell.val dr r) chk)).ks (m >>= fun r => .ok (.rt (r, x)))) (w_mono (h (M.nb1 nb) xk.l.here) fun r e => ⟨.rt (r, x), by rw [e]; rfl, (r, x), rfl, rfl, hx⟩)
end
end
end G
end

/-! GM: groups of a graph, in plain Lean. -/
namespace G
def Adj (pts : List Int) (ties : List (Int × Int)) (a b : Int) : Prop := a ∈ pts ∧ b ∈ pts ∧ ((a, b) ∈ ties ∨ (b, a) ∈ ties)
theorem Adj.symm {pts : List Int} {ties : List (Int × Int)} {a b : Int} (h : Adj pts ties a b) : Adj pts ties b a := ⟨h.2.1, h.1, h.2.2.symm⟩
inductive Reach (pts : List Int) (ties : List (Int × Int)) : Int → Int → Prop where
  | refl (x : Int) : Reach pts ties x x
  | tail {x y z : Int} (h : Reach pts ties x y) (a : Adj pts ties y z) : Reach pts ties x z
section
variable {pts : List Int} {ties : List (Int × Int)}
theorem Reach.trans {x y z : Int} (h : Reach pts ties x y) (g : Reach pts ties y z) : Reach pts ties x z := by
  induction g with
  | refl => exact h
  | tail _ a ih => exact .tail ih a
theorem Reach.symm {x y : Int} (h : Reach pts ties x y) : Reach pts ties y x := by
  induction h with
  | refl => exact .refl _
  | tail _ a ih => exact (Reach.tail (.refl _) a.symm).trans ih
theorem Reach.mem {x y : Int} (h : Reach pts ties x y) (hx : x ∈ pts) : y ∈ pts := by
  cases h with
  | refl => exact hx
  | tail _ a => exact a.2.1
noncomputable instance decReach {pts : List Int} {ties : List (Int × Int)} {x y : Int} : Decidable (Reach pts ties x y) := Classical.propDecidable _
noncomputable def compOf (pts : List Int) (ties : List (Int × Int)) (p : Int) : List Int := (isort pts).filter fun x => decide (Reach pts ties p x)
def IsMin (pts : List Int) (ties : List (Int × Int)) (p : Int) : Prop := ∀ q ∈ pts, Reach pts ties p q → p ≤ q
noncomputable instance decMin {pts : List Int} {ties : List (Int × Int)} {x : Int} : Decidable (IsMin pts ties x) := Classical.propDecidable _
noncomputable def firsts (pts : List Int) (ties : List (Int × Int)) (xs : List Int) : List Int := xs.filter fun p => decide (IsMin pts ties p)
/-- the groups, ascending, by their lowest points -/
noncomputable def groupsOf (pts : List Int) (ties : List (Int × Int)) : List (List Int) := (firsts pts ties (isort pts)).map (compOf pts ties)
theorem mem_isort {xs : List Int} {x : Int} : x ∈ isort xs ↔ x ∈ xs := (isort_perm xs).mem_iff
theorem isort_nodup {xs : List Int} (h : xs.Nodup) : (isort xs).Nodup := (isort_perm xs).nodup_iff.mpr h
theorem mem_comp {p x : Int} : x ∈ compOf pts ties p ↔ x ∈ pts ∧ Reach pts ties p x := by
  unfold compOf
  rw [List.mem_filter, mem_isort, decide_eq_true_eq]
theorem comp_lt (h : pts.Nodup) (p : Int) : (compOf pts ties p).Pairwise (· < ·) := by
  refine List.Pairwise.filter _ ?_
  have a := isort_pw pts
  have b := isort_nodup h
  exact List.Pairwise.imp₂ (fun x y h1 h2 => by omega) a (List.nodup_iff_pairwise_ne.mp b) |> fun z => z
/-- a list that holds just a group's points is the group, once sorted -/
theorem isort_comp (h : pts.Nodup) {p : Int} {g : List Int} (hn : g.Nodup) (hm : ∀ x, x ∈ g ↔ x ∈ pts ∧ Reach pts ties p x) : isort g = compOf pts ties p := by
  refine (isort_eq ?_ ((comp_lt h p).imp (fun h => by omega))).symm
  have hc : (compOf pts ties p).Nodup := (comp_lt h p).imp (fun h => by omega)
  exact (List.perm_ext_iff_of_nodup hc hn).mpr fun x => by rw [mem_comp, hm]

/-! near -/
theorem lookup_setI {β : Type} : ∀ (kv : List (Int × β)) (n k : Int) (v : β), (setI kv n v).lookup k = if k = n then (kv.lookup n).map (fun _ => v) else kv.lookup k
  | [], n, k, v => by unfold setI; split <;> rfl
  | p :: kv, n, k, v => by
    unfold setI
    by_cases hp : p.1 = n
    · rw [if_pos hp, lookup_cons', lookup_cons', lookup_cons', if_pos hp]
      by_cases hk : k = n
      · rw [if_pos hk, if_pos (hp.trans hk.symm)]; rfl
      · rw [if_neg hk, if_neg (fun z => hk (z.symm.trans hp)), if_neg (fun z => hk (z.symm.trans hp))]
    · rw [if_neg hp, lookup_cons', lookup_cons', lookup_cons', if_neg hp, lookup_setI kv n k v]
      by_cases hk : k = n
      · rw [if_pos hk, if_pos hk, if_neg (fun z => hp (z.trans hk))]
      · rw [if_neg hk, if_neg hk]
structure NearOk (pts : List Int) (ts : List (Int × Int)) (kv : List (Int × List Int)) : Prop where
  has : ∀ k, (kv.lookup k).isSome = true ↔ k ∈ pts
  items : ∀ k xs, kv.lookup k = some xs → (∀ z, z ∈ xs ↔ Adj pts ts k z) ∧ xs.length ≤ 2 * ts.length
theorem adj_append {a b k z : Int} {ts : List (Int × Int)} : Adj pts (ts ++ [(a, b)]) k z ↔ Adj pts ts k z ∨ (k ∈ pts ∧ z ∈ pts ∧ ((k = a ∧ z = b) ∨ (k = b ∧ z = a))) := by
  unfold Adj
  simp only [List.mem_append, List.mem_singleton, Prod.mk.injEq]
  constructor
  · rintro ⟨h1, h2, (h | h) | (h | h)⟩
    · exact .inl ⟨h1, h2, .inl h⟩
    · exact .inr ⟨h1, h2, .inl h⟩
    · exact .inl ⟨h1, h2, .inr h⟩
    · exact .inr ⟨h1, h2, .inr ⟨h.2, h.1⟩⟩
  · rintro (⟨h1, h2, h | h⟩ | ⟨h1, h2, h | h⟩)
    · exact ⟨h1, h2, .inl (.inl h)⟩
    · exact ⟨h1, h2, .inr (.inl h)⟩
    · exact ⟨h1, h2, .inl (.inr h)⟩
    · exact ⟨h1, h2, .inr (.inr ⟨h.2, h.1⟩)⟩
theorem near_skip {ts : List (Int × Int)} {kv : List (Int × List Int)} {a b : Int} (h : NearOk pts ts kv) (hab : ¬ (a ∈ pts ∧ b ∈ pts)) : NearOk pts (ts ++ [(a, b)]) kv := by
  refine ⟨h.has, fun k xs e => ⟨fun z => ?_, ?_⟩⟩
  · rw [(h.items k xs e).1 z, adj_append]
    constructor
    · exact .inl
    · rintro (q | ⟨h1, h2, ⟨rfl, rfl⟩ | ⟨rfl, rfl⟩⟩)
      · exact q
      · exact absurd ⟨h1, h2⟩ hab
      · exact absurd ⟨h2, h1⟩ hab
  · have := (h.items k xs e).2
    rw [List.length_append]
    simp only [List.length_singleton]
    omega
theorem near_step {ts : List (Int × Int)} {kv : List (Int × List Int)} {a b : Int} {xa xb : List Int} (h : NearOk pts ts kv) (ha : a ∈ pts) (hb : b ∈ pts) (ea : kv.lookup a = some xa) (eb : (setI kv a (xa ++ [b])).lookup b = some xb) :
    NearOk pts (ts ++ [(a, b)]) (setI (setI kv a (xa ++ [b])) b (xb ++ [a])) := by
  have l2 : ∀ k, (setI (setI kv a (xa ++ [b])) b (xb ++ [a])).lookup k = if k = b then some (xb ++ [a]) else if k = a then some (xa ++ [b]) else kv.lookup k := by
    intro k
    rw [lookup_setI, eb]
    by_cases hk : k = b
    · rw [if_pos hk, if_pos hk]; rfl
    · rw [if_neg hk, if_neg hk, lookup_setI, ea]
      by_cases hk2 : k = a
      · rw [if_pos hk2, if_pos hk2]; rfl
      · rw [if_neg hk2, if_neg hk2]
  have lb : xb = if b = a then xa ++ [b] else xb := by
    by_cases hba : b = a
    · rw [if_pos hba]
      rw [lookup_setI, if_pos hba, ea] at eb
      exact (Option.some.inj eb).symm
    · rw [if_neg hba]
  have lb2 : b ≠ a → kv.lookup b = some xb := fun hba => by rw [lookup_setI, if_neg hba] at eb; exact eb
  refine ⟨fun k => ?_, fun k xs e => ?_⟩
  · rw [l2 k]
    by_cases hk : k = b
    · rw [if_pos hk]; subst hk; simp [hb]
    · rw [if_neg hk]
      by_cases hk2 : k = a
      · rw [if_pos hk2]; subst hk2; simp [ha]
      · rw [if_neg hk2]; exact h.has k
  · rw [l2 k] at e
    have len : (ts ++ [(a, b)]).length = ts.length + 1 := by simp
    by_cases hk : k = b
    · rw [if_pos hk] at e
      cases (Option.some.inj e)
      subst hk
      by_cases hba : k = a
      · rw [if_pos hba] at lb
        subst hba
        have q := h.items k xa ea
        refine ⟨fun z => ?_, ?_⟩
        · rw [lb, adj_append, ← q.1 z]
          simp only [List.mem_append, List.mem_singleton]
          constructor
          · rintro ((h | h) | h)
            · exact .inl h
            · exact .inr ⟨hb, by rw [h]; exact hb, .inl ⟨trivial, h⟩⟩
            · exact .inr ⟨hb, by rw [h]; exact hb, .inl ⟨trivial, h⟩⟩
          · rintro (h | ⟨_, _, ⟨_, h⟩ | ⟨_, h⟩⟩)
            · exact .inl (.inl h)
            · exact .inr h
            · exact .inr h
        · rw [lb, len]; simp only [List.length_append, List.length_singleton]; omega
      · have q := h.items k xb (lb2 hba)
        refine ⟨fun z => ?_, ?_⟩
        · rw [adj_append, ← q.1 z]
          simp only [List.mem_append, List.mem_singleton]
          constructor
          · rintro (h | h)
            · exact .inl h
            · exact .inr ⟨hb, by rw [h]; exact ha, .inr ⟨trivial, h⟩⟩
          · rintro (h | ⟨_, _, ⟨h, _⟩ | ⟨_, h⟩⟩)
            · exact .inl h
            · exact absurd h hba
            · exact .inr h
        · rw [len]; simp only [List.length_append, List.length_singleton]; omega
    · rw [if_neg hk] at e
      by_cases hk2 : k = a
      · rw [if_pos hk2] at e
        cases (Option.some.inj e)
        subst hk2
        have q := h.items k xa ea
        refine ⟨fun z => ?_, ?_⟩
        · rw [adj_append, ← q.1 z]
          simp only [List.mem_append, List.mem_singleton]
          constructor
          · rintro (h | h)
            · exact .inl h
            · exact .inr ⟨ha, by rw [h]; exact hb, .inl ⟨trivial, h⟩⟩
          · rintro (h | ⟨_, _, ⟨_, h⟩ | ⟨h, _⟩⟩)
            · exact .inl h
            · exact .inr h
            · exact absurd h hk
        · rw [len]; simp only [List.length_append, List.length_singleton]; omega
      · rw [if_neg hk2] at e
        have q := h.items k xs e
        refine ⟨fun z => ?_, ?_⟩
        · rw [adj_append, ← q.1 z]
          constructor
          · exact .inl
          · rintro (h | ⟨_, _, ⟨h, _⟩ | ⟨h, _⟩⟩)
            · exact h
            · exact absurd h hk2
            · exact absurd h hk
        · rw [len]; omega

theorem lookup_none_of {β : Type} {kv : List (Int × β)} {k : Int} (h : ∀ p ∈ kv, p.1 ≠ k) : kv.lookup k = none := by
  induction kv with
  | nil => rfl
  | cons p kv ih =>
    rw [lookup_cons', if_neg (h p List.mem_cons_self)]
    exact ih fun q hq => h q (List.mem_cons_of_mem _ hq)
theorem lookup_map_nil {k : Int} : ∀ (xs : List Int), (xs.map fun k => (k, ([] : List Int))).lookup k = if k ∈ xs then some [] else none
  | [] => rfl
  | x :: xs => by
    rw [List.map_cons, lookup_cons', lookup_map_nil xs]
    by_cases hx : x = k
    · rw [if_pos hx, if_pos (by rw [hx]; exact List.mem_cons_self)]
    · rw [if_neg hx]
      by_cases hk : k ∈ xs
      · rw [if_pos hk, if_pos (List.mem_cons_of_mem _ hk)]
      · rw [if_neg hk, if_neg (fun z => (List.mem_cons.mp z).elim (fun z => hx z.symm) hk)]
theorem near_start (_h : pts.Nodup) : NearOk pts [] (pts.map fun k => (k, [])) := by
  refine ⟨fun k => ?_, fun k xs e => ?_⟩
  · rw [lookup_map_nil]
    by_cases hk : k ∈ pts
    · rw [if_pos hk]; simp [hk]
    · rw [if_neg hk]; simp [hk]
  · rw [lookup_map_nil] at e
    by_cases hk : k ∈ pts
    · rw [if_pos hk] at e
      cases e
      exact ⟨fun z => ⟨fun h => (nomatch h), fun h => by rcases h.2.2 with h | h <;> cases h⟩, Nat.zero_le _⟩
    · rw [if_neg hk] at e; cases e

/-! the search -/
/-- what holds while the group of p is searched: s0 is what was seen ahead of it -/
structure Dfs (pts : List Int) (ties : List (Int × Int)) (s0 : List Int) (p : Int) (seen group waiting : List Int) : Prop where
  nd : (group ++ waiting).Nodup
  sn : seen.Nodup
  mem : ∀ x, x ∈ seen ↔ x ∈ s0 ∨ x ∈ group ++ waiting
  re : ∀ x ∈ group ++ waiting, Reach pts ties p x ∧ x ∈ pts
  clo : ∀ x ∈ group, ∀ z, Adj pts ties x z → z ∈ seen
  st : p ∈ group ++ waiting
  /-- what is seen is of the points -/
  sub : ∀ x ∈ seen, x ∈ pts
theorem len_le {α : Type} [DecidableEq α] : ∀ {xs pts : List α}, xs.Nodup → (∀ x ∈ xs, x ∈ pts) → xs.length ≤ pts.length
  | [], _, _, _ => Nat.zero_le _
  | x :: xs, pts, h, hs => by
    have hx := hs x List.mem_cons_self
    have h1 := List.nodup_cons.mp h
    have ih := len_le (xs := xs) (pts := pts.erase x) h1.2 fun y hy => (List.mem_erase_of_ne (fun z => h1.1 (by rw [← z]; exact hy))).mpr (hs y (List.mem_cons_of_mem _ hy))
    have hl := List.length_erase_of_mem hx
    have hp := List.length_pos_of_mem hx
    simp only [List.length_cons]
    omega
/-- one neighbour more -/
theorem Dfs.push {s0 seen group waiting : List Int} {p m z : Int} (h : Dfs pts ties s0 p seen group waiting) (hm : m ∈ group) (a : Adj pts ties m z) (hz : z ∉ seen) :
    Dfs pts ties s0 p (seen ++ [z]) group (waiting ++ [z]) := by
  have h1 : z ∉ s0 := fun q => hz ((h.mem z).mpr (.inl q))
  have h2 : z ∉ group ++ waiting := fun q => hz ((h.mem z).mpr (.inr q))
  have hr := h.re m (List.mem_append_left _ hm)
  refine ⟨?_, ?_, fun x => ?_, fun x hx => ?_, fun x hx y ay => ?_, ?_, fun x hx => ?_⟩
  · rw [← List.append_assoc]
    refine List.nodup_append.mpr ⟨h.nd, by simp, fun x hx y hy e => ?_⟩
    rw [List.mem_singleton] at hy
    subst e hy
    exact h2 hx
  · refine List.nodup_append.mpr ⟨h.sn, by simp, fun x hx y hy e => ?_⟩
    rw [List.mem_singleton] at hy
    subst e hy
    exact hz hx
  · rw [← List.append_assoc, List.mem_append, List.mem_append, h.mem x, or_assoc]
  · rw [← List.append_assoc, List.mem_append, List.mem_singleton] at hx
    rcases hx with hx | rfl
    · exact h.re x hx
    · exact ⟨.tail hr.1 a, a.2.1⟩
  · exact List.mem_append_left _ (h.clo x hx y ay)
  · rw [← List.append_assoc]; exact List.mem_append_left _ h.st
  · rcases List.mem_append.mp hx with hx | hx
    · exact h.sub x hx
    · rw [List.mem_singleton] at hx; subst hx; exact a.2.1
/-- .. in the midst of the neighbours of m, which the group holds: done are those that were looked at -/
structure Dfs2 (pts : List Int) (ties : List (Int × Int)) (s0 : List Int) (p : Int) (seen group waiting : List Int) (m : Int) (done : List Int) : Prop where
  nd : (group ++ waiting).Nodup
  sn : seen.Nodup
  mem : ∀ x, x ∈ seen ↔ x ∈ s0 ∨ x ∈ group ++ waiting
  re : ∀ x ∈ group ++ waiting, Reach pts ties p x ∧ x ∈ pts
  clo : ∀ x ∈ group, x ≠ m → ∀ z, Adj pts ties x z → z ∈ seen
  st : p ∈ group ++ waiting
  sub : ∀ x ∈ seen, x ∈ pts
  hm : m ∈ group
  dn : ∀ z ∈ done, z ∈ seen
theorem Dfs.take {s0 seen group ws : List Int} {p m : Int} (h : Dfs pts ties s0 p seen group (ws ++ [m])) : Dfs2 pts ties s0 p seen (group ++ [m]) ws m [] := by
  have hp : ((group ++ [m]) ++ ws).Perm (group ++ (ws ++ [m])) := by
    rw [List.append_assoc]
    exact List.Perm.append_left _ List.perm_append_comm
  refine ⟨hp.nodup_iff.mpr h.nd, h.sn, fun x => by rw [h.mem x, hp.mem_iff], fun x hx => h.re x (hp.mem_iff.mp hx), fun x hx hne z a => ?_, hp.mem_iff.mpr h.st, h.sub, by simp, fun z hz => (nomatch hz)⟩
  rcases List.mem_append.mp hx with hx | hx
  · exact h.clo x hx z a
  · exact absurd (List.mem_singleton.mp hx) hne
theorem Dfs2.push {s0 seen group waiting dn : List Int} {p m z : Int} (h : Dfs2 pts ties s0 p seen group waiting m dn) (a : Adj pts ties m z) (hz : z ∉ seen) : Dfs2 pts ties s0 p (seen ++ [z]) group (waiting ++ [z]) m (dn ++ [z]) := by
  have h2 : z ∉ group ++ waiting := fun q => hz ((h.mem z).mpr (.inr q))
  refine ⟨?_, nodup_snoc h.sn hz, fun x => ?_, fun x hx => ?_, fun x hx hne y ay => List.mem_append_left _ (h.clo x hx hne y ay), ?_, fun x hx => ?_, h.hm, fun x hx => ?_⟩
  · rw [← List.append_assoc]; exact nodup_snoc h.nd h2
  · rw [← List.append_assoc, List.mem_append, List.mem_append, h.mem x, or_assoc]
  · rw [← List.append_assoc, List.mem_append, List.mem_singleton] at hx
    rcases hx with hx | rfl
    · exact h.re x hx
    · exact ⟨.tail (h.re m (List.mem_append_left _ h.hm)).1 a, a.2.1⟩
  · rw [← List.append_assoc]; exact List.mem_append_left _ h.st
  · rcases List.mem_append.mp hx with hx | hx
    · exact h.sub x hx
    · rw [List.mem_singleton] at hx; subst hx; exact a.2.1
  · rcases List.mem_append.mp hx with hx | hx
    · exact List.mem_append_left _ (h.dn x hx)
    · exact List.mem_append_right _ hx
theorem Dfs2.skip {s0 seen group waiting dn : List Int} {p m z : Int} (h : Dfs2 pts ties s0 p seen group waiting m dn) (hz : z ∈ seen) : Dfs2 pts ties s0 p seen group waiting m (dn ++ [z]) :=
  ⟨h.nd, h.sn, h.mem, h.re, h.clo, h.st, h.sub, h.hm, fun x hx => by
    rcases List.mem_append.mp hx with hx | hx
    · exact h.dn x hx
    · rw [List.mem_singleton] at hx; subst hx; exact hz⟩
theorem Dfs2.back {s0 seen group waiting dn : List Int} {p m : Int} (h : Dfs2 pts ties s0 p seen group waiting m dn) (hd : ∀ z, Adj pts ties m z → z ∈ dn) : Dfs pts ties s0 p seen group waiting :=
  ⟨h.nd, h.sn, h.mem, h.re, fun x hx z a => by
    by_cases e : x = m
    · subst e; exact h.dn z (hd z a)
    · exact h.clo x hx e z a, h.st, h.sub⟩
/-- the search is over -/
theorem Dfs.done {s0 seen group : List Int} {p : Int} (h : Dfs pts ties s0 p seen group []) (h0 : ∀ x y, x ∈ s0 → Reach pts ties x y → y ∈ s0) (hp : p ∉ s0) (x : Int) : x ∈ group ↔ x ∈ pts ∧ Reach pts ties p x := by
  have hg : ∀ y, y ∈ group ++ [] ↔ y ∈ group := fun y => by simp
  constructor
  · intro hx
    have := h.re x ((hg x).mpr hx)
    exact ⟨this.2, this.1⟩
  · rintro ⟨hx, hr⟩
    clear hx
    induction hr with
    | refl => exact (hg p).mp h.st
    | @tail y z hy a ih =>
      have := (h.mem z).mp (h.clo y ih z a)
      rcases this with q | q
      · exact absurd (h0 z p q (Reach.tail hy a).symm) hp
      · exact (hg z).mp q
/-- what has been seen behind the points xs -/
structure Seen (pts : List Int) (ties : List (Int × Int)) (xs seen : List Int) : Prop where
  nd : seen.Nodup
  mem : ∀ x, x ∈ seen ↔ x ∈ pts ∧ ∃ q ∈ xs, Reach pts ties q x
theorem Seen.clo {xs seen : List Int} (h : Seen pts ties xs seen) (x y : Int) (hx : x ∈ seen) (hr : Reach pts ties x y) : y ∈ seen := by
  obtain ⟨h1, q, hq, h2⟩ := (h.mem x).mp hx
  exact (h.mem y).mpr ⟨hr.mem h1, q, hq, h2.trans hr⟩
theorem Seen.start {xs seen : List Int} {p : Int} (h : Seen pts ties xs seen) (hp : p ∈ pts) (hn : p ∉ seen) : Dfs pts ties seen p (seen ++ [p]) [] [p] := by
  refine ⟨by simp, ?_, fun x => by simp, fun x hx => ?_, fun x hx => (nomatch hx), by simp, fun x hx => ?_⟩
  · refine List.nodup_append.mpr ⟨h.nd, by simp, fun x hx y hy e => ?_⟩
    rw [List.mem_singleton] at hy
    subst e hy
    exact hn hx
  · have e : x = p := by simpa using hx
    subst e
    exact ⟨.refl _, hp⟩
  · rcases List.mem_append.mp hx with hx | hx
    · exact ((h.mem x).mp hx).1
    · rw [List.mem_singleton] at hx; subst hx; exact hp
theorem Seen.next {xs seen seen' group : List Int} {p : Int} (h : Seen pts ties xs seen) (hn : p ∉ seen) (hd : Dfs pts ties seen p seen' group []) : Seen pts ties (xs ++ [p]) seen' := by
  refine ⟨hd.sn, fun x => ?_⟩
  have q := hd.done (fun a b => h.clo a b) hn x
  rw [hd.mem x, List.append_nil, q, h.mem x]
  constructor
  · rintro (⟨h1, y, hy, h2⟩ | ⟨h1, h2⟩)
    · exact ⟨h1, y, List.mem_append_left _ hy, h2⟩
    · exact ⟨h1, p, by simp, h2⟩
  · rintro ⟨h1, y, hy, h2⟩
    rcases List.mem_append.mp hy with hy | hy
    · exact .inl ⟨h1, y, hy, h2⟩
    · rw [List.mem_singleton] at hy; subst hy; exact .inr ⟨h1, h2⟩
theorem Seen.skip {xs seen : List Int} {p : Int} (h : Seen pts ties xs seen) (hp : p ∈ seen) : Seen pts ties (xs ++ [p]) seen := by
  refine ⟨h.nd, fun x => ?_⟩
  rw [h.mem x]
  constructor
  · rintro ⟨h1, y, hy, h2⟩
    exact ⟨h1, y, List.mem_append_left _ hy, h2⟩
  · rintro ⟨h1, y, hy, h2⟩
    rcases List.mem_append.mp hy with hy | hy
    · exact ⟨h1, y, hy, h2⟩
    · rw [List.mem_singleton] at hy
      subst hy
      obtain ⟨_, q, hq, h3⟩ := (h.mem y).mp hp
      exact ⟨h1, q, hq, h3.trans h2⟩
/-- of sorted points -/
theorem sorted_before {xs : List Int} {i : Nat} {p q : Int} (hs : xs.Pairwise (· < ·)) (hi : xs[i]? = some p) (hq : q ∈ xs) : q ∈ xs.take i ↔ q < p := by
  obtain ⟨hlt, e⟩ := List.getElem?_eq_some_iff.mp hi
  constructor
  · intro h
    obtain ⟨j, hj, e2⟩ := List.mem_take_iff_getElem.mp h
    have := List.pairwise_iff_getElem.mp hs j i (by omega) hlt (by omega)
    rw [e, e2] at this
    exact this
  · intro h
    obtain ⟨j, hj, e2⟩ := List.mem_iff_getElem.mp hq
    have hji : j < i := by
      rcases Nat.lt_trichotomy j i with h1 | h1 | h1
      · exact h1
      · subst h1; rw [e] at e2; omega
      · have := List.pairwise_iff_getElem.mp hs i j hlt hj h1
        rw [e, e2] at this
        omega
    exact List.mem_take_iff_getElem.mpr ⟨j, by omega, e2⟩
theorem isort_lt (h : pts.Nodup) : (isort pts).Pairwise (· < ·) :=
  List.Pairwise.imp₂ (fun x y h1 h2 => by omega) (isort_pw pts) (List.nodup_iff_pairwise_ne.mp (isort_nodup h))
theorem min_iff (h : pts.Nodup) {i : Nat} {p : Int} {seen : List Int} (hi : (isort pts)[i]? = some p) (hs : Seen pts ties ((isort pts).take i) seen) : IsMin pts ties p ↔ p ∉ seen := by
  have hm : p ∈ pts := mem_isort.mp (List.mem_of_getElem? hi)
  constructor
  · intro hmin hp
    obtain ⟨_, q, hq, hr⟩ := (hs.mem p).mp hp
    have hq2 := List.mem_of_mem_take hq
    have h1 := (sorted_before (isort_lt h) hi hq2).mp hq
    have h2 := hmin q (mem_isort.mp hq2) hr.symm
    omega
  · intro hp q hq hr
    by_cases hlt : q < p
    · exact absurd ((hs.mem p).mpr ⟨hm, q, (sorted_before (isort_lt h) hi (mem_isort.mpr hq)).mpr hlt, hr.symm⟩) hp
    · omega
theorem firsts_take (i : Nat) {p : Int} {xs : List Int} (hi : xs[i]? = some p) : (IsMin pts ties p → firsts pts ties (xs.take (i + 1)) = firsts pts ties (xs.take i) ++ [p]) ∧ (¬ IsMin pts ties p → firsts pts ties (xs.take (i + 1)) = firsts pts ties (xs.take i)) := by
  unfold firsts
  rw [getElem?_filterTake _ xs hi]
  constructor
  · intro h; rw [if_pos (by simpa using h)]
  · intro h; rw [if_neg (by simpa using h), List.append_nil]

/-! groups hang together -/
/-- each point is in one group, the group of one lowest point -/
theorem exists_min (hn : pts.Nodup) {x : Int} (hx : x ∈ pts) : ∃ p ∈ pts, IsMin pts ties p ∧ Reach pts ties p x := by
  have key : ∀ (n : Nat) (y : Int), y ∈ pts → Reach pts ties y x → (pts.filter fun z => decide (z < y)).length ≤ n → ∃ p ∈ pts, IsMin pts ties p ∧ Reach pts ties p x := by
    intro n
    induction n with
    | zero =>
      intro y hy hr hl
      refine ⟨y, hy, fun q hq hrq => ?_, hr⟩
      by_cases hlt : q < y
      · have : q ∈ pts.filter fun z => decide (z < y) := List.mem_filter.mpr ⟨hq, by simpa using hlt⟩
        have := List.length_pos_of_mem this
        omega
      · omega
    | succ n ih =>
      intro y hy hr hl
      by_cases hm : IsMin pts ties y
      · exact ⟨y, hy, hm, hr⟩
      · have : ∃ q ∈ pts, Reach pts ties y q ∧ q < y := by
          apply Classical.byContradiction
          intro z
          refine hm fun q hq hrq => ?_
          by_cases hlt : q < y
          · exact absurd ⟨q, hq, hrq, hlt⟩ z
          · omega
        obtain ⟨q, hq, hrq, hlt⟩ := this
        refine ih q hq (hrq.symm.trans hr) ?_
        have h1 : (pts.filter fun z => decide (z < q)).length < (pts.filter fun z => decide (z < y)).length := by
          have hsub : ∀ z ∈ q :: pts.filter (fun z => decide (z < q)), z ∈ pts.filter fun z => decide (z < y) := by
            intro z hz
            rcases List.mem_cons.mp hz with e | hz
            · subst e; exact List.mem_filter.mpr ⟨hq, by simpa using hlt⟩
            · obtain ⟨h1, h2⟩ := List.mem_filter.mp hz
              have h3 : z < q := by simpa using h2
              exact List.mem_filter.mpr ⟨h1, by simp; omega⟩
          have hnd : (q :: pts.filter (fun z => decide (z < q))).Nodup := List.nodup_cons.mpr ⟨fun z => by simpa using (List.mem_filter.mp z).2, List.Sublist.nodup List.filter_sublist hn⟩
          have := len_le hnd hsub
          simp only [List.length_cons] at this
          omega
        omega
  exact key _ x hx (.refl _) (Nat.le_refl _)
theorem min_unique {p q x : Int} (hp : p ∈ pts) (hq : q ∈ pts) (hmp : IsMin pts ties p) (hmq : IsMin pts ties q) (h1 : Reach pts ties p x) (h2 : Reach pts ties q x) : p = q := by
  have a := hmp q hq (h1.trans h2.symm)
  have b := hmq p hp (h2.trans h1.symm)
  omega
end
end G

/-! GN: groups by labels, in plain Lean. -/
namespace G
section
variable {pts : List Int} {ties : List (Int × Int)}
structure LabOk (pts : List Int) (ts : List (Int × Int)) (kv : List (Int × Int)) : Prop where
  has : ∀ k, (kv.lookup k).isSome = true ↔ k ∈ pts
  le : ∀ x y, kv.lookup x = some y → y ≤ x ∧ y ∈ pts ∧ Reach pts ts x y
def Cor (pts : List Int) (ts : List (Int × Int)) (kv : List (Int × Int)) (x : Int) : Prop := ∃ y, kv.lookup x = some y ∧ IsMin pts ts y
noncomputable instance decCor {pts : List Int} {ts : List (Int × Int)} {kv : List (Int × Int)} {x : Int} : Decidable (Cor pts ts kv x) := Classical.propDecidable _
noncomputable def corr (pts : List Int) (ts : List (Int × Int)) (kv : List (Int × Int)) : List Int := pts.filter fun x => decide (Cor pts ts kv x)
theorem mem_corr {kv : List (Int × Int)} {x : Int} : x ∈ corr pts ties kv ↔ x ∈ pts ∧ Cor pts ties kv x := by
  unfold corr
  rw [List.mem_filter, decide_eq_true_eq]
theorem lab_step {kv : List (Int × Int)} {a b la lb low : Int} (h : LabOk pts ties kv) (ha : a ∈ pts) (hb : b ∈ pts) (ht : (a, b) ∈ ties) (ea : kv.lookup a = some la) (eb : kv.lookup b = some lb) (hl : low = if lb < la then lb else la) :
    LabOk pts ties (putI (putI kv a low) b low) ∧ (∀ x, Cor pts ties kv x → Cor pts ties (putI (putI kv a low) b low) x) ∧ (Cor pts ties kv a → Cor pts ties (putI (putI kv a low) b low) b) ∧ (Cor pts ties kv b → Cor pts ties (putI (putI kv a low) b low) a) := by
  have ad : Adj pts ties a b := ⟨ha, hb, .inl ht⟩
  have l2 : ∀ k, (putI (putI kv a low) b low).lookup k = if k = b then some low else if k = a then some low else kv.lookup k := by
    intro k
    rw [lookup_putI, lookup_putI]
  have qa := h.le a la ea
  have qb := h.le b lb eb
  have rab : Reach pts ties a b := .tail (.refl _) ad
  have lo : low = la ∨ low = lb := by rw [hl]; split <;> simp
  have lo2 : low ≤ la ∧ low ≤ lb := by rw [hl]; split <;> omega
  have ra : Reach pts ties a low := by
    rcases lo with e | e
    · rw [e]; exact qa.2.2
    · rw [e]; exact rab.trans qb.2.2
  have mlow : low ∈ pts := ra.mem ha
  have both : Cor pts ties kv a ∨ Cor pts ties kv b → IsMin pts ties low := by
    rintro (⟨y, ey, hy⟩ | ⟨y, ey, hy⟩)
    · rw [ea] at ey
      cases ey
      have := hy low mlow (qa.2.2.symm.trans ra)
      have e : low = la := by omega
      rw [e]; exact hy
    · rw [eb] at ey
      cases ey
      have := hy low mlow (qb.2.2.symm.trans (rab.symm.trans ra))
      have e : low = lb := by omega
      rw [e]; exact hy
  have cb : IsMin pts ties low → Cor pts ties (putI (putI kv a low) b low) b := fun hm => ⟨low, by rw [l2, if_pos rfl], hm⟩
  have ca : IsMin pts ties low → Cor pts ties (putI (putI kv a low) b low) a := fun hm => ⟨low, by
    rw [l2]
    by_cases e : a = b
    · rw [if_pos e]
    · rw [if_neg e, if_pos rfl], hm⟩
  refine ⟨⟨fun k => ?_, fun x y e => ?_⟩, fun x hx => ?_, fun q => cb (both (.inl q)), fun q => ca (both (.inr q))⟩
  · rw [l2]
    by_cases e1 : k = b
    · rw [if_pos e1]; subst e1; simp [hb]
    · rw [if_neg e1]
      by_cases e2 : k = a
      · rw [if_pos e2]; subst e2; simp [ha]
      · rw [if_neg e2]; exact h.has k
  · rw [l2] at e
    by_cases e1 : x = b
    · rw [if_pos e1] at e
      cases e
      subst e1
      exact ⟨by omega, mlow, rab.symm.trans ra⟩
    · rw [if_neg e1] at e
      by_cases e2 : x = a
      · rw [if_pos e2] at e
        cases e
        subst e2
        exact ⟨by omega, mlow, ra⟩
      · rw [if_neg e2] at e
        exact h.le x y e
  · by_cases e1 : x = b
    · subst e1; exact cb (both (.inr hx))
    · by_cases e2 : x = a
      · subst e2; exact ca (both (.inl hx))
      · obtain ⟨y, ey, hy⟩ := hx
        exact ⟨y, by rw [l2, if_neg e1, if_neg e2]; exact ey, hy⟩
theorem lab_full (hn : pts.Nodup) {kv : List (Int × Int)} (h : LabOk pts ties kv) (hc : ∀ a b, Adj pts ties a b → Cor pts ties kv a → Cor pts ties kv b) {x : Int} (hx : x ∈ pts) : Cor pts ties kv x := by
  obtain ⟨p, hp, hm, hr⟩ := exists_min (ties := ties) hn hx
  obtain ⟨y, ey⟩ := Option.isSome_iff_exists.mp ((h.has p).mpr hp)
  have q := h.le p y ey
  have e : y = p := by have := hm y q.2.1 q.2.2; omega
  clear hx
  induction hr with
  | refl => exact ⟨y, ey, by rw [e]; exact hm⟩
  | tail hr a ih => exact hc _ _ a ih
/-- a round makes more of them right, until all are -/
theorem lab_round (hn : pts.Nodup) {kv0 kv : List (Int × Int)} {n : Nat} (h0 : LabOk pts ties kv0) (hm : ∀ x, Cor pts ties kv0 x → Cor pts ties kv x)
    (hd : ∀ a b, (a, b) ∈ ties → a ∈ pts → b ∈ pts → (Cor pts ties kv0 a → Cor pts ties kv b) ∧ (Cor pts ties kv0 b → Cor pts ties kv a)) (hk : n ≤ (corr pts ties kv0).length ∨ pts.length ≤ (corr pts ties kv0).length) :
    n + 1 ≤ (corr pts ties kv).length ∨ pts.length ≤ (corr pts ties kv).length := by
  have nd0 : (corr pts ties kv0).Nodup := List.Sublist.nodup List.filter_sublist hn
  have nd1 : (corr pts ties kv).Nodup := List.Sublist.nodup List.filter_sublist hn
  have sub : ∀ x ∈ corr pts ties kv0, x ∈ corr pts ties kv := fun x hx => mem_corr.mpr ⟨(mem_corr.mp hx).1, hm x (mem_corr.mp hx).2⟩
  have l0 := len_le nd0 sub
  by_cases all : ∀ a b, Adj pts ties a b → Cor pts ties kv0 a → Cor pts ties kv0 b
  · right
    exact len_le hn fun x hx => mem_corr.mpr ⟨hx, hm x (lab_full hn h0 all hx)⟩
  · have : ∃ a b, Adj pts ties a b ∧ Cor pts ties kv0 a ∧ ¬ Cor pts ties kv0 b := by
      apply Classical.byContradiction
      intro z
      refine all fun a b h1 h2 => ?_
      apply Classical.byContradiction
      intro h3
      exact z ⟨a, b, h1, h2, h3⟩
    obtain ⟨a, b, ad, ca, nb⟩ := this
    have cb : Cor pts ties kv b := by
      rcases ad.2.2 with h | h
      · exact (hd a b h ad.1 ad.2.1).1 ca
      · exact (hd b a h ad.2.1 ad.1).2 ca
    have l1 : (b :: corr pts ties kv0).length ≤ (corr pts ties kv).length := len_le (List.nodup_cons.mpr ⟨fun z => nb (mem_corr.mp z).2, nd0⟩) fun x hx => by
      rcases List.mem_cons.mp hx with e | e
      · rw [e]; exact mem_corr.mpr ⟨ad.2.1, cb⟩
      · exact sub x e
    rw [List.length_cons] at l1
    omega
theorem lab_all (hn : pts.Nodup) {kv : List (Int × Int)} (h : pts.length ≤ (corr pts ties kv).length) {x : Int} (hx : x ∈ pts) : Cor pts ties kv x := by
  apply Classical.byContradiction
  intro z
  have nd : (corr pts ties kv).Nodup := List.Sublist.nodup List.filter_sublist hn
  have := len_le (xs := x :: corr pts ties kv) (List.nodup_cons.mpr ⟨fun q => z (mem_corr.mp q).2, nd⟩) (pts := pts) fun y hy => by
    rcases List.mem_cons.mp hy with e | e
    · rw [e]; exact hx
    · exact (mem_corr.mp e).1
  rw [List.length_cons] at this
  omega
end
end G

/-! PM: models of the helpers that the laws share, and of the program (printed by gen3.py). -/
namespace PM
open PySem L2 G
/-- _law_cell -/
noncomputable def l_cell_m (script : (Sq Int)) (k : Int) : M Int :=
  if (decide (k < (script.l.length : Int))) then
  (M.ix script.l k)
else
  (M.ok (0 : Int))
/-- _law_draws -/
noncomputable def l_draws_m (cell_here : Int) (many : Int) : M (List Int) :=
  (M.ok (if cell_here < 0 then -cell_here else cell_here)) >>= fun rest_1 =>
  (M.ok (decide ((1000000000000000000 : Int) ≤ rest_1))) >>= fun exact_2 =>
  (M.ok ((rest_1 % (2147483629 : Int)) + (17 : Int))) >>= fun mixed_3 =>
  (M.ok ([] : (List Int))) >>= fun draws_here_4 =>
  (M.range many) >>= fun l12 =>
  M.fold (fun (s5 : (Int × Int × (List Int))) x6 =>
    (M.ok ((((s5.2.1 * (48271 : Int)) + ((9973 : Int) * x6)) + (11 : Int)) % (2147483647 : Int))) >>= fun mixed_7 =>
      if (exact_2 && (decide ((0 : Int) < s5.1))) then
      M.push s5.2.2 (M.ok (s5.1 % (60 : Int))) >>= fun draws_here_8 =>
        (M.ok (s5.1 / (60 : Int))) >>= fun rest_9 =>
        M.ok (rest_9, mixed_7, draws_here_8)
    else
      M.push s5.2.2 (M.ok ((mixed_7 / (13 : Int)) % (60 : Int))) >>= fun draws_here_10 =>
        M.ok (s5.1, mixed_7, draws_here_10)) (rest_1, mixed_3, draws_here_4) l12 >>= fun (s11 : (Int × Int × (List Int))) =>
  M.ok s11.2.2
/-- _law_pick -/
noncomputable def l_pick_m (draws_here : (List Int)) (k : Int) (many : Int) : M Int :=
  if ((decide (many < (2 : Int))) || (decide ((draws_here.length : Int) = (0 : Int)))) then
  (M.ok (0 : Int))
else
  (((M.asrt (0 < (draws_here.length : Int)) (.ok (k % (draws_here.length : Int)))) >>= fun t1 => (M.ix draws_here t1)) >>= fun t2 => (M.asrt (0 < many) (.ok (t2 % many))))
/-- _law_web -/
noncomputable def l_web_m (draws_here : (List Int)) (most_places : Int) (most_ties : Int) : M ((List Int) × (List (T4 Int Int Int Int))) :=
  (M.ok [(2 : Int), (2 : Int), (3 : Int), (2 : Int), (1 : Int), (4 : Int)]) >>= fun menu_1 =>
  (l_pick_m draws_here (0 : Int) (most_places + (1 : Int))) >>= fun many_2 =>
  ((M.range many_2) >>= M.comp (fun _ => (M.ok true)) (fun x3 => ((l_pick_m draws_here ((2 : Int) + x3) (6 : Int)) >>= fun t4 => (M.ix menu_1 t4)))) >>= fun sides_5 =>
  (M.ok ([] : (List (T4 Int Int Int Int)))) >>= fun ties_6 =>
  ((l_pick_m draws_here (1 : Int) (most_ties + (1 : Int))) >>= fun t8 => (M.range t8)) >>= fun l19 =>
  M.fold (fun (s7 : (List (T4 Int Int Int Int))) x9 =>
    if (decide ((0 : Int) < many_2)) then
      (M.ok (((2 : Int) + many_2) + ((4 : Int) * x9))) >>= fun at__10 =>
        (l_pick_m draws_here at__10 many_2) >>= fun one_11 =>
        (l_pick_m draws_here (at__10 + (2 : Int)) many_2) >>= fun other_12 =>
        ((M.ix sides_5 one_11) >>= fun t13 => (l_pick_m draws_here (at__10 + (1 : Int)) t13)) >>= fun side_14 =>
        M.push s7 (((M.ix sides_5 other_12) >>= fun t15 => (l_pick_m draws_here (at__10 + (3 : Int)) t15)) >>= fun t16 => (M.ok ⟨one_11, side_14, other_12, t16⟩)) >>= fun ties_17 =>
        M.ok ties_17
    else
      M.ok s7) ties_6 l19 >>= fun (s18 : (List (T4 Int Int Int Int))) =>
  (M.ok (sides_5, s18))
/-- check_end -/
noncomputable def p_check_end_m (sides : (List Int)) (place : Int) (side : Int) : M Unit :=
  if ((decide (place < (0 : Int))) || (decide ((sides.length : Int) ≤ place))) then
  M.raise1 .UnknownPlace "place" (M.ok place)
else
  (if (decide (side < (0 : Int))) then .ok true else ((M.ix sides place) >>= fun t1 => (M.ok (decide (t1 ≤ side))))) >>= fun b2 => if b2 then
    M.raise2 .UnknownSide "place" "side" (M.ok place) (M.ok side)
  else
    M.ok ()
/-- Web.__init__ -/
noncomputable def m_WebX_initX_m (sides : (List Int)) (ties : (List (T4 Int Int Int Int))) : M WebM :=
  if (decide ((200 : Int) < (sides.length : Int))) then
  M.raise1 .TooLarge "limit" (M.ok (200 : Int))
else
  if (decide ((300 : Int) < (ties.length : Int))) then
    M.raise1 .TooLarge "limit" (M.ok (300 : Int))
  else
    (M.ok (M.enumL sides)) >>= fun l12 =>
      M.fold (fun (_ : Unit) x2 =>
        if ((decide (x2.2 < (1 : Int))) || (decide ((4 : Int) < x2.2))) then
          M.raise1 .BadSides "place" (M.ok x2.1)
        else
          M.ok ()) () l12 >>= fun (_ : Unit) =>
      (M.ok ties) >>= fun l11 =>
      M.fold (fun (_ : Unit) x5 =>
        (p_check_end_m sides x5.a x5.b) >>= fun _ =>
          (p_check_end_m sides x5.c x5.d) >>= fun _ =>
          M.ok ()) () l11 >>= fun (_ : Unit) =>
      (M.ok ⟨sides⟩) >>= fun f_7 =>
      ((M.comp (fun _ => (M.ok true)) (fun x8 => (M.ok ⟨x8.a, x8.b, x8.c, x8.d⟩)) ties) >>= fun t9 => (M.ok ⟨t9⟩)) >>= fun f_10 =>
      M.ok ⟨f_7, f_10⟩
/-- Web.back -/
noncomputable def m_Web_back_m (step : (Int × Int)) : M (Int × Int) :=
  (M.ok (step.1, ((1 : Int) - step.2)))
/-- Web.tail -/
noncomputable def m_Web_tail_m (self : WebM) (step : (Int × Int)) : M (Int × Int) :=
  (M.ok step) >>= fun t1 =>
  if ((decide (t1.1 < (0 : Int))) || (decide ((self.b.l.length : Int) ≤ t1.1))) then
  M.raise1 .UnknownTie "tie" (M.ok t1.1)
else
  (M.ix self.b.l t1.1) >>= fun t2 =>
    if (decide (t1.2 = (0 : Int))) then
    (M.ok (t2.a, t2.b))
  else
    (M.ok (t2.c, t2.d))
/-- Web.head -/
noncomputable def m_Web_head_m (self : WebM) (step : (Int × Int)) : M (Int × Int) :=
  ((m_Web_back_m step) >>= fun t1 => (m_Web_tail_m self t1))
/-- Web.__contains__ -/
noncomputable def m_WebX_containsX_m (self : WebM) (place : Int) : M Bool :=
  (M.ok ((decide ((0 : Int) ≤ place)) && (decide (place < (self.a.l.length : Int)))))
/-- Web.steps_from -/
noncomputable def m_Web_steps_from_m (self : WebM) (place : Int) : M (List (Int × Int)) :=
  (M.calm (m_WebX_containsX_m self place) >>= fun b1 => .ok (!b1)) >>= fun b10 => if b10 then
  M.raise1 .UnknownPlace "place" (M.ok place)
else
  (M.ok ([] : (List (Int × Int)))) >>= fun found_2 =>
    (M.ok (M.enumL self.b.l)) >>= fun l9 =>
    M.fold (fun (s3 : (List (Int × Int))) x4 =>
      (if (decide (x4.2.a = place)) then
        M.push s3 (M.ok (x4.1, (0 : Int))) >>= fun found_5 =>
          M.ok found_5
      else
        M.ok s3) >>= (fun s6 : (List (Int × Int)) =>
        if (decide (x4.2.c = place)) then
        M.push s6 (M.ok (x4.1, (1 : Int))) >>= fun found_7 =>
          M.ok found_7
      else
        M.ok s6)) found_2 l9 >>= fun (s8 : (List (Int × Int))) =>
    M.ok s8
/-- followers -/
noncomputable def p_followers_m (web : WebM) (step : (Int × Int)) : M (List (Int × Int)) :=
  (m_Web_head_m web step) >>= fun t1 =>
  ((m_Web_steps_from_m web t1.1) >>= M.comp (fun x2 => (((m_Web_tail_m web x2) >>= fun t3 => (M.ok t3.2)) >>= fun t4 => (M.ok (!decide (t4 = t1.2))))) (fun x2 => (M.ok x2)))
/-- _law_same -/
noncomputable def l_same_step (rec_ : PyData → PyData → M Bool) (told : PyData) (due_here : PyData) : M Bool :=
  if (isNoneU due_here) then
  (M.ok (isNoneU told))
else
  if (isU "bool" due_here) then
    (if (isU "bool" told) then (M.asrt (told.depth ≤ 64 ∧ due_here.depth ≤ 64) (.ok (PyData.eqv told due_here))) else .ok false)
  else
    if (isU "int" due_here) then
      (if (isU "int" told) then (if (!(isU "bool" told)) then (M.asrt (told.depth ≤ 64 ∧ due_here.depth ≤ 64) (.ok (PyData.eqv told due_here))) else .ok false) else .ok false)
    else
      if (isU "str" due_here) then
        (if (isU "str" told) then (M.asrt (told.depth ≤ 64 ∧ due_here.depth ≤ 64) (.ok (PyData.eqv told due_here))) else .ok false)
      else
        if ((isU "list" due_here) && (!(isU "list" told))) then
          (M.ok false)
        else
          if ((isU "tuple" due_here) && (!(isU "tuple" told))) then
            (M.ok false)
          else
            (((M.ofO (itemsU told) >>= fun ds => M.ok (⟨ds⟩ : Sq PyData)) >>= fun t1 => (M.ok (t1.l.length : Int))) >>= fun t3 => (((M.ofO (itemsU due_here) >>= fun ds => M.ok (⟨ds⟩ : Sq PyData)) >>= fun t2 => (M.ok (t2.l.length : Int))) >>= fun t4 => (M.ok (!decide (t3 = t4))))) >>= fun b18 => if b18 then
              (M.ok false)
            else
              (((M.ofO (itemsU due_here) >>= fun ds => M.ok (⟨ds⟩ : Sq PyData)) >>= fun t6 => (M.ok (t6.l.length : Int))) >>= fun t7 => (M.range t7)) >>= fun l17 =>
                M.foldC (fun (_ : Unit) x8 =>
                  ((((M.ofO (itemsU told) >>= fun ds => M.ok (⟨ds⟩ : Sq PyData)) >>= fun t9 => (M.ix t9.l x8)) >>= fun t11 => (((M.ofO (itemsU due_here) >>= fun ds => M.ok (⟨ds⟩ : Sq PyData)) >>= fun t10 => (M.ix t10.l x8)) >>= fun t12 => (rec_ t11 t12))) >>= fun t13 => (M.ok (!t13))) >>= fun b14 => if b14 then
                    (M.ok false) >>= fun r => .ok (.rt r)
                  else
                    M.ok (.nx ())) () l17 >>= fun c16 => Ct.go c16 M.ok fun (_ : Unit) =>
                (M.ok true)
noncomputable def l_same_m : Nat → PyData → PyData → M Bool
  | 0 => fun _ _ => .bad
  | fl + 1 => l_same_step (l_same_m fl)
/-- grouped -/
noncomputable def p_grouped_m (points : (List Int)) (ties : (List (Int × Int))) : M (List (List Int)) :=
  (M.dcomp (fun _ => (M.ok true)) (fun x1 => (M.ok x1)) (fun x1 => (M.ok ([] : (List Int)))) (⟨points⟩ : Sq Int).l) >>= fun near_2 =>
  (M.ok ties) >>= fun l36 =>
  M.fold (fun (s3 : (DI (List Int))) x4 =>
    if (((s3.kv.lookup x4.1).isSome) && ((s3.kv.lookup x4.2).isSome)) then
      M.appDI s3 (M.ok x4.1) (M.ok x4.2) >>= fun near_5 =>
        M.appDI near_5 (M.ok x4.2) (M.ok x4.1) >>= fun near_6 =>
        M.ok near_6
    else
      M.ok s3) near_2 l36 >>= fun (s7 : (DI (List Int))) =>
  (M.ok ([] : (List (List Int)))) >>= fun groups_8 =>
  (M.ok (⟨[]⟩ : IS)) >>= fun seen_9 =>
  (M.ok (isort points)) >>= fun l35 =>
  M.fold (fun (s10 : ((List (List Int)) × IS)) x19 =>
    if (!memB x19 s10.2.l) then
      M.sadd s10.2 (M.ok x19) >>= fun seen_20 =>
        (M.ok ([] : (List Int))) >>= fun group_21 =>
        (M.ok [x19]) >>= fun waiting_22 =>
        M.loop (fun (s23 : (IS × (List Int) × (List Int))) => (M.ok (!s23.2.2.isEmpty))) (fun (s23 : (IS × (List Int) × (List Int))) =>
          (M.popL s23.2.2) >>= fun p24 =>
            M.push s23.2.1 (M.ok p24.2) >>= fun group_25 =>
            (M.ofO (s7.kv.lookup p24.2)) >>= fun l31 =>
            M.fold (fun (s26 : (IS × (List Int))) x27 =>
              if (!memB x27 s26.1.l) then
                M.sadd s26.1 (M.ok x27) >>= fun seen_28 =>
                  M.push s26.2 (M.ok x27) >>= fun waiting_29 =>
                  M.ok (seen_28, waiting_29)
              else
                M.ok (s26.1, s26.2)) (s23.1, p24.1) l31 >>= fun (s30 : (IS × (List Int))) =>
            M.ok (s30.1, group_25, s30.2)) (seen_20, group_21, waiting_22) >>= fun (s32 : (IS × (List Int) × (List Int))) =>
        M.push s10.1 (M.ok (isort s32.2.1)) >>= fun groups_33 =>
        M.ok (groups_33, s32.1)
    else
      M.ok (s10.1, s10.2)) (groups_8, seen_9) l35 >>= fun (s34 : ((List (List Int)) × IS)) =>
  M.ok s34.1
end PM

/-! PB: plain lemmas over the monad. -/
namespace G
open PySem L2
namespace M
variable {α β γ σ ρ : Type}
theorem fold_ok {f : σ → α → M σ} {xs : List α} {s0 : σ} (P : Nat → σ → Prop) (h0 : P 0 s0) (hs : ∀ i x s, xs[i]? = some x → P i s → ∃ s', f s x = .ok s' ∧ P (i + 1) s') : ∃ s, fold f s0 xs = .ok s ∧ P xs.length s := by
  have key : ∀ n, n ≤ xs.length → ∃ s, fold f s0 (xs.take n) = .ok s ∧ P n s := by
    intro n
    induction n with
    | zero => intro _; exact ⟨s0, rfl, h0⟩
    | succ n ih =>
      intro hn
      obtain ⟨s, e, p⟩ := ih (by omega)
      have hx : xs[n]? = some xs[n] := by simp [show n < xs.length by omega]
      obtain ⟨s', e', p'⟩ := hs n xs[n] s hx p
      refine ⟨s', ?_, p'⟩
      rw [List.take_add_one, hx]
      show fold f s0 (xs.take n ++ [xs[n]]) = _
      rw [fold_snoc, e]
      exact e'
  have := key xs.length (Nat.le_refl _)
  rwa [List.take_length] at this
/-- the state behind i turns is told -/
theorem fold_eq {f : σ → α → M σ} {xs : List α} (s0 : σ) (g : Nat → σ) (h0 : g 0 = s0) (hs : ∀ i x, xs[i]? = some x → f (g i) x = .ok (g (i + 1))) : fold f s0 xs = .ok (g xs.length) := by
  obtain ⟨s, e, p⟩ := fold_ok (f := f) (xs := xs) (s0 := s0) (fun i s => s = g i) h0.symm fun i x s hx e => ⟨g (i + 1), by rw [e]; exact hs i x hx, rfl⟩
  rw [e, p]
/-- turns that keep the state -/
theorem fold_unit {f : Unit → α → M Unit} {xs : List α} (h : ∀ x ∈ xs, f () x = .ok ()) : fold f () xs = .ok () :=
  fold_eq () (fun _ => ()) rfl fun i x hx => h x (List.mem_of_getElem? hx)
theorem range_ok {n : Int} (h0 : 0 ≤ n) (h1 : n ≤ 100000) : range n = .ok (rngL 0 n.toNat) := asrt_pos ⟨by omega, Int.le_trans h1 (by decide)⟩
theorem rangeN {n : Nat} (h1 : n ≤ 100000) : range (n : Int) = .ok (rngL 0 n) := by rw [range_ok (by omega) (by omega)]; simp
theorem push_small {xs : List α} {y : α} (h : xs.length ≤ 100000) : push xs (.ok y) = .ok (xs ++ [y]) := push_ok (small1k h)
theorem ix_at {xs : List α} {i : Int} {x : α} (h0 : 0 ≤ i) (h : xs[i.toNat]? = some x) : ix xs i = .ok x := by unfold ix; rw [atI_of h0 h]; rfl
theorem ix_some {xs : List α} {i : Int} (h0 : 0 ≤ i) (h1 : i < xs.length) : ∃ x, xs[i.toNat]? = some x ∧ ix xs i = .ok x := by
  have hlt : i.toNat < xs.length := by omega
  exact ⟨xs[i.toNat], by simp [hlt], ix_at h0 (by simp [hlt])⟩
theorem ix_getD {xs : List α} {i : Int} (d : α) (h0 : 0 ≤ i) (h1 : i < xs.length) : ix xs i = .ok (xs.getD i.toNat d) := by
  obtain ⟨x, hx, e⟩ := ix_some h0 h1
  rw [e, List.getD_eq_getElem?_getD, hx]; rfl
theorem comp_filter {p : α → M Bool} (p' : α → Bool) {xs : List α} (h1 : ∀ x ∈ xs, p x = .ok (p' x)) : comp p (fun x => .ok x) xs = .ok (xs.filter p') := by
  rw [comp_of p' (fun x => x) xs h1 fun _ _ _ => rfl, List.map_id']
theorem comp_mapM {f : α → M β} (f' : α → β) {xs : List α} (h : ∀ x ∈ xs, f x = .ok (f' x)) : comp (fun _ => .ok true) f xs = .ok (xs.map f') := by
  rw [comp_of (fun _ => true) f' xs (fun _ _ => rfl) fun x hx _ => h x hx, List.filter_eq_self.mpr fun _ _ => rfl]
@[simp] theorem tryK_ok {kn p : XC → Bool} {x : α} {h : PX → M α} : tryK kn p (.ok x) h = .ok x := rfl
/-- m ends well, with a value as R says -/
def sat (m : M α) (R : α → Prop) : Prop := ∃ r, m = .ok r ∧ R r
theorem sat_ok {x : α} {R : α → Prop} (h : R x) : sat (.ok x) R := ⟨x, rfl, h⟩
theorem sat_bind {m : M α} {f : α → M β} {R1 : α → Prop} {R : β → Prop} (h : sat m R1) (h2 : ∀ x, R1 x → sat (f x) R) : sat (m >>= f) R := by
  obtain ⟨x, rfl, hx⟩ := h
  exact h2 x hx
theorem sat_eq {m : M α} {f : α → M β} {x : α} {R : β → Prop} (h : m = .ok x) (h2 : sat (f x) R) : sat (m >>= f) R := by
  rw [h]; exact h2
theorem sat_mono {m : M α} {R R' : α → Prop} (h : sat m R) (h2 : ∀ x, R x → R' x) : sat m R' := let ⟨x, e, hx⟩ := h; ⟨x, e, h2 x hx⟩
theorem sat_if {b : Bool} {m n : M α} {R : α → Prop} (h : b = true → sat m R) (h2 : b = false → sat n R) : sat (if b then m else n) R := by
  cases b with
  | true => exact h rfl
  | false => exact h2 rfl
theorem sat_fold {f : σ → α → M σ} {xs : List α} {s0 : σ} (P : Nat → σ → Prop) (h0 : P 0 s0) (hs : ∀ i x s, xs[i]? = some x → P i s → sat (f s x) (P (i + 1))) : sat (fold f s0 xs) (P xs.length) := fold_ok P h0 hs
theorem sat_push {xs : List α} {m : M α} {R : List α → Prop} (hl : xs.length ≤ 100000) (h : sat m fun y => R (xs ++ [y])) : sat (push xs m) R := by
  obtain ⟨y, rfl, hy⟩ := h
  exact ⟨_, push_ok (small1k hl), hy⟩
end M
theorem rngL_get {lo : Int} {n i : Nat} {x : Int} (h : (rngL lo n)[i]? = some x) : i < n ∧ x = lo + i := by
  rw [← rng_get] at h
  exact rng_some h
theorem mem_rngL {lo : Int} {n : Nat} {x : Int} : x ∈ rngL lo n ↔ lo ≤ x ∧ x < lo + n := by
  unfold rngL
  rw [List.mem_map]
  constructor
  · rintro ⟨i, hi, rfl⟩
    rw [List.mem_range] at hi
    omega
  · intro ⟨h1, h2⟩
    exact ⟨(x - lo).toNat, List.mem_range.mpr (by omega), by omega⟩
end G

/-! PL: what the shared helpers compute. -/
namespace PM
open PySem L2 G
theorem cell_ok (s : Sq Int) {k : Int} (hk : 0 ≤ k) : ∃ x, l_cell_m s k = .ok x := by
  unfold l_cell_m
  split
  · next h =>
    simp at h
    obtain ⟨x, _, e⟩ := M.ix_some hk h
    exact ⟨x, e⟩
  · exact ⟨_, rfl⟩
theorem draws_ok (c : Int) {m : Int} (h0 : 0 ≤ m) (h1 : m ≤ 1000) : ∃ ds, l_draws_m c m = .ok ds := by
  suffices M.sat (l_draws_m c m) fun _ => True from let ⟨d, e, _⟩ := this; ⟨d, e⟩
  unfold l_draws_m
  simp only [M.ok_bind]
  rw [M.range_ok h0 (by omega)]
  simp only [M.ok_bind]
  refine M.sat_bind (M.sat_fold (fun i s => s.2.2.length ≤ i) (Nat.le_refl 0) fun i x s hx hs => ?_) fun s _ => M.sat_ok trivial
  have hi := (rngL_get hx).1
  refine M.sat_if (fun _ => ?_) fun _ => ?_
  · exact M.sat_bind (M.sat_push (R := fun y => y.length ≤ i + 1) (by omega) (M.sat_ok (by simp; omega))) fun y hy => M.sat_ok hy
  · exact M.sat_bind (M.sat_push (R := fun y => y.length ≤ i + 1) (by omega) (M.sat_ok (by simp; omega))) fun y hy => M.sat_ok hy
def pick (d : List Int) (k m : Int) : Int := if m < 2 ∨ d = [] then 0 else d.getD (k % d.length).toNat 0 % m
theorem pick_eq (d : List Int) (k m : Int) : l_pick_m d k m = .ok (pick d k m) := by
  unfold l_pick_m pick
  by_cases h : m < 2 ∨ d = []
  · rw [if_pos h, if_pos]
    simp; exact h
  · rw [if_neg h, if_neg (by simp; exact ⟨by omega, fun z => h (.inr z)⟩)]
    have hd : d ≠ [] := fun z => h (.inr z)
    have hl : 0 < d.length := List.length_pos_iff.mpr hd
    have h1 : 0 ≤ k % (d.length : Int) := Int.emod_nonneg _ (by omega)
    have h2 : k % (d.length : Int) < d.length := Int.emod_lt_of_pos _ (by omega)
    rw [M.asrt_pos (by omega)]
    simp only [M.ok_bind]
    rw [M.ix_getD 0 h1 h2]
    simp only [M.ok_bind]
    rw [M.asrt_pos (by omega)]
theorem pick_range {d : List Int} {k m : Int} (h : 1 ≤ m) : 0 ≤ pick d k m ∧ pick d k m < m := by
  unfold pick
  split
  · omega
  · exact ⟨Int.emod_nonneg _ (by omega), Int.emod_lt_of_pos _ (by omega)⟩
/-- sides and ties that make a web -/
structure Good (sides : List Int) (ties : List T4I) : Prop where
  sd : ∀ s ∈ sides, 1 ≤ s ∧ s ≤ 4
  ti : ∀ x ∈ ties, 0 ≤ x.a ∧ x.a < sides.length ∧ 0 ≤ x.b ∧ x.b < sides.getD x.a.toNat 0 ∧ 0 ≤ x.c ∧ x.c < sides.length ∧ 0 ≤ x.d ∧ x.d < sides.getD x.c.toNat 0
theorem getD_mem {xs : List Int} {i : Int} (h0 : 0 ≤ i) (h1 : i < xs.length) : xs.getD i.toNat 0 ∈ xs := by
  have hlt : i.toNat < xs.length := by omega
  rw [List.getD_eq_getElem?_getD, List.getElem?_eq_getElem hlt]
  exact List.getElem_mem hlt
theorem web_sat (d : List Int) {p t : Int} (hp0 : 0 ≤ p) (hp1 : p ≤ 1000) (ht0 : 0 ≤ t) (ht1 : t ≤ 1000) : M.sat (l_web_m d p t) fun r => Good r.1 r.2 ∧ r.1.length ≤ p.toNat ∧ r.2.length ≤ t.toNat := by
  unfold l_web_m
  simp only [M.ok_bind, pick_eq]
  have hm := pick_range (d := d) (k := 0) (m := p + 1) (by omega)
  generalize pick d 0 (p + 1) = many at hm
  rw [M.range_ok hm.1 (by omega)]
  simp only [M.ok_bind]
  have menu : ∀ k : Int, ∃ x, M.ix ([2, 2, 3, 2, 1, 4] : List Int) (pick d k 6) = .ok x ∧ 1 ≤ x ∧ x ≤ 4 := fun k => by
    have hr := pick_range (d := d) (k := k) (m := 6) (by omega)
    generalize pick d k 6 = j at hr
    obtain ⟨x, hx, e⟩ := M.ix_some (xs := ([2, 2, 3, 2, 1, 4] : List Int)) hr.1 (by simpa using hr.2)
    refine ⟨x, e, ?_⟩
    have hmem := List.mem_of_getElem? hx
    simp at hmem
    omega
  have comp : ∃ sides : List Int, M.comp (fun _ => (M.ok true)) (fun x3 => M.ix ([2, 2, 3, 2, 1, 4] : List Int) (pick d (2 + x3) 6)) (rngL 0 many.toNat) = .ok sides ∧ sides.length = many.toNat ∧ ∀ s ∈ sides, 1 ≤ s ∧ s ≤ 4 := by
    refine ⟨_, M.comp_of (fun _ => true) (fun x3 => (menu (2 + x3)).choose) _ (fun _ _ => rfl) (fun x _ _ => (menu (2 + x)).choose_spec.1), ?_, ?_⟩
    · rw [List.length_map, List.filter_eq_self.mpr fun _ _ => rfl, rngL_len]
    · intro s hs
      rw [List.mem_map] at hs
      obtain ⟨x, _, rfl⟩ := hs
      exact (menu (2 + x)).choose_spec.2
  obtain ⟨sides, es, hl, hsd⟩ := comp
  rw [es]
  simp only [M.ok_bind]
  have hk := pick_range (d := d) (k := 1) (m := t + 1) (by omega)
  generalize pick d 1 (t + 1) = kk at hk
  rw [M.range_ok hk.1 (by omega)]
  simp only [M.ok_bind]
  have hlen : (sides.length : Int) = many := by omega
  refine M.sat_bind (M.sat_fold (fun i (s : List T4I) => Good sides s ∧ s.length ≤ i) ⟨⟨hsd, fun x hx => (nomatch hx)⟩, Nat.le_refl 0⟩ fun i x s hx ⟨hs, hsl⟩ => ?_) fun s ⟨h1, h2⟩ => M.sat_ok ⟨h1, by show sides.length ≤ _; omega, by rw [rngL_len] at h2; show s.length ≤ _; omega⟩
  have hi := (rngL_get hx).1
  refine M.sat_if (fun hb => ?_) fun _ => M.sat_ok ⟨hs, by omega⟩
  have h0 : 0 < many := by simpa using hb
  generalize ((2 : Int) + many) + ((4 : Int) * x) = at_
  have r1 := pick_range (d := d) (k := at_) (m := many) (by omega)
  have r2 := pick_range (d := d) (k := at_ + 2) (m := many) (by omega)
  generalize pick d at_ many = one at r1
  generalize pick d (at_ + 2) many = other at r2
  rw [M.ix_getD 0 r1.1 (by omega), M.ix_getD 0 r2.1 (by omega)]
  simp only [M.ok_bind]
  have g1 := hsd _ (getD_mem (xs := sides) r1.1 (by omega))
  have g2 := hsd _ (getD_mem (xs := sides) r2.1 (by omega))
  have r3 := pick_range (d := d) (k := at_ + 1) (m := sides.getD one.toNat 0) (by omega)
  have r4 := pick_range (d := d) (k := at_ + 3) (m := sides.getD other.toNat 0) (by omega)
  rw [M.push_small (by omega)]
  refine ⟨_, rfl, ⟨hsd, fun y hy => ?_⟩, by simp; omega⟩
  rcases List.mem_append.mp hy with hy | hy
  · exact hs.ti y hy
  · rw [List.mem_singleton] at hy
    subst hy
    exact ⟨r1.1, by show one < (sides.length : Int); omega, r3.1, r3.2, r2.1, by show other < (sides.length : Int); omega, r4.1, r4.2⟩
theorem check_ok {sides : List Int} {p s : Int} (h1 : 0 ≤ p) (h2 : p < sides.length) (h3 : 0 ≤ s) (h4 : s < sides.getD p.toNat 0) : p_check_end_m sides p s = .ok () := by
  unfold p_check_end_m
  rw [if_neg (by simp; omega), if_neg (by simp; omega), M.ix_getD 0 h1 h2]
  simp only [M.ok_bind]
  rw [if_neg (by simp only [decide_eq_true_eq]; omega)]
theorem init_ok {sides : List Int} {ties : List T4I} (h : Good sides ties) (hs : sides.length ≤ 200) (ht : ties.length ≤ 300) : m_WebX_initX_m sides ties = .ok ⟨⟨sides⟩, ⟨ties⟩⟩ := by
  unfold m_WebX_initX_m
  rw [if_neg (by simp; omega), if_neg (by simp; omega)]
  simp only [M.ok_bind]
  rw [M.fold_unit fun x hx => ?_]
  simp only [M.ok_bind]
  rw [M.fold_unit fun x hx => ?_]
  simp only [M.ok_bind]
  · rw [M.comp_map]
    simp only [M.ok_bind]
    have : (ties.map fun x8 : T4I => (⟨x8.a, x8.b, x8.c, x8.d⟩ : T4I)) = ties := by
      refine (List.map_congr_left fun x _ => ?_).trans (List.map_id ties)
      cases x; rfl
    rw [this]
  · obtain ⟨a, b, c, d, e, f, g, i⟩ := h.ti x hx
    rw [check_ok a b c d, check_ok e f g i]; rfl
  · unfold M.enumL at hx
    rw [List.mem_map] at hx
    obtain ⟨p, hp, rfl⟩ := hx
    have hm : p.1 ∈ sides := by
      have := List.mem_zipIdx hp
      rw [this.2.2]
      exact List.getElem_mem _
    have := h.sd _ hm
    rw [if_neg (by simp; omega)]
/-! steps -/
def tl (ties : List T4I) (s : Int × Int) : Int × Int := let x := ties.getD s.1.toNat ⟨0, 0, 0, 0⟩; if s.2 = 0 then (x.a, x.b) else (x.c, x.d)
def bk (s : Int × Int) : Int × Int := (s.1, 1 - s.2)
/-- the step walks a tie -/
def IsStep (ties : List T4I) (s : Int × Int) : Prop := 0 ≤ s.1 ∧ s.1 < ties.length ∧ (s.2 = 0 ∨ s.2 = 1)
theorem IsStep.bk {ties : List T4I} {s : Int × Int} (h : IsStep ties s) : IsStep ties (bk s) := ⟨h.1, h.2.1, by rcases h.2.2 with e | e <;> simp [PM.bk, e]⟩
theorem back_eq (s : Int × Int) : m_Web_back_m s = .ok (bk s) := rfl
theorem tail_eq {w : WebM} {s : Int × Int} (h0 : 0 ≤ s.1) (h1 : s.1 < w.b.l.length) : m_Web_tail_m w s = .ok (tl w.b.l s) := by
  unfold m_Web_tail_m tl
  simp only [M.ok_bind]
  rw [if_neg (by simp; omega), M.ix_getD ⟨0, 0, 0, 0⟩ h0 h1]
  simp only [M.ok_bind]
  by_cases h : s.2 = 0
  · rw [if_pos (by simpa using h), if_pos h]
  · rw [if_neg (by simpa using h), if_neg h]
theorem head_eq {w : WebM} {s : Int × Int} (h0 : 0 ≤ s.1) (h1 : s.1 < w.b.l.length) : m_Web_head_m w s = .ok (tl w.b.l (bk s)) := by
  unfold m_Web_head_m
  rw [back_eq]
  simp only [M.ok_bind]
  exact tail_eq (s := bk s) h0 h1
theorem has_eq (w : WebM) (p : Int) : m_WebX_containsX_m w p = .ok (decide (0 ≤ p) && decide (p < w.a.l.length)) := rfl
/-- all steps, ascending -/
def allSteps : Nat → List (Int × Int)
  | 0 => []
  | n + 1 => allSteps n ++ [((n : Int), 0), ((n : Int), 1)]
theorem mem_allSteps {n : Nat} {s : Int × Int} : s ∈ allSteps n ↔ 0 ≤ s.1 ∧ s.1 < n ∧ (s.2 = 0 ∨ s.2 = 1) := by
  induction n with
  | zero => simp [allSteps]; omega
  | succ n ih =>
    obtain ⟨t, d⟩ := s
    simp only [allSteps, List.mem_append, ih, List.mem_cons, Prod.mk.injEq, List.not_mem_nil, or_false]
    omega
theorem allSteps_len (n : Nat) : (allSteps n).length = 2 * n := by
  induction n with
  | zero => rfl
  | succ n ih => simp [allSteps, ih]; omega
theorem steps_from_eq {w : WebM} {p : Int} (h0 : 0 ≤ p) (h1 : p < w.a.l.length) (hn : w.b.l.length ≤ 10000) : m_Web_steps_from_m w p = .ok ((allSteps w.b.l.length).filter fun s => decide ((tl w.b.l s).1 = p)) := by
  unfold m_Web_steps_from_m
  rw [has_eq, decide_eq_true h0, decide_eq_true h1]
  simp only [Bool.and_self, M.calm_of_ok, M.ok_bind, Bool.not_true]
  rw [if_neg (by simp)]
  rw [M.fold_eq [] (fun i => (allSteps i).filter fun s => decide ((tl w.b.l s).1 = p)) rfl fun i x hx => ?_]
  · rw [M.enumL_len]; rfl
  · rw [← M.enumL_get] at hx
    unfold enumI at hx
    obtain ⟨y, hy, rfl⟩ := Option.map_eq_some_iff.mp hx
    have hi : i < w.b.l.length := (List.getElem?_eq_some_iff.mp hy).1
    have e0 : w.b.l.getD i ⟨0, 0, 0, 0⟩ = y := by rw [List.getD_eq_getElem?_getD, hy]; rfl
    have e1 : tl w.b.l ((i : Int), 0) = (y.a, y.b) := by unfold tl; simp only [Int.toNat_natCast, e0, if_true]
    have e2 : tl w.b.l ((i : Int), 1) = (y.c, y.d) := by unfold tl; simp only [Int.toNat_natCast, e0]; rw [if_neg (by decide)]
    have hl : ((allSteps i).filter fun s => decide ((tl w.b.l s).1 = p)).length ≤ 2 * i := by rw [← allSteps_len i]; exact List.length_filter_le _ _
    show _ = M.ok ((allSteps i ++ [((i : Int), 0), ((i : Int), 1)]).filter _)
    rw [List.filter_append]
    simp only [List.filter_cons, e1, e2, List.filter_nil]
    by_cases ha : y.a = p
    · rw [if_pos (by simpa using ha), M.push_small (by omega)]
      simp only [M.ok_bind]
      by_cases hc : y.c = p
      · rw [if_pos (by simpa using hc), M.push_small (by simp; omega)]
        simp [ha, hc]
      · rw [if_neg (by simpa using hc)]
        simp [ha, hc]
    · rw [if_neg (by simpa using ha)]
      simp only [M.ok_bind]
      by_cases hc : y.c = p
      · rw [if_pos (by simpa using hc), M.push_small (by omega)]
        simp [ha, hc]
      · rw [if_neg (by simpa using hc)]
        simp [ha, hc]
/-- the followers of a step -/
def fols (ties : List T4I) (s : Int × Int) : List (Int × Int) := (allSteps ties.length).filter fun f => decide ((tl ties f).1 = (tl ties (bk s)).1) && !decide ((tl ties f).2 = (tl ties (bk s)).2)
theorem tl_place {sides : List Int} {ties : List T4I} (g : Good sides ties) {s : Int × Int} (h : IsStep ties s) : 0 ≤ (tl ties s).1 ∧ (tl ties s).1 < sides.length := by
  have hlt : s.1.toNat < ties.length := by have := h.1; have := h.2.1; omega
  have hm : ties.getD s.1.toNat ⟨0, 0, 0, 0⟩ ∈ ties := by rw [List.getD_eq_getElem?_getD, List.getElem?_eq_getElem hlt]; exact List.getElem_mem hlt
  obtain ⟨a, b, c, d, e, f, g, i⟩ := g.ti _ hm
  unfold tl
  by_cases hz : s.2 = 0
  · rw [if_pos hz]; exact ⟨a, b⟩
  · rw [if_neg hz]; exact ⟨e, f⟩
theorem followers_eq {sides : List Int} {ties : List T4I} (g : Good sides ties) (hn : ties.length ≤ 10000) {s : Int × Int} (h : IsStep ties s) : p_followers_m ⟨⟨sides⟩, ⟨ties⟩⟩ s = .ok (fols ties s) := by
  have hp := tl_place g h.bk
  unfold p_followers_m fols
  rw [head_eq (w := ⟨⟨sides⟩, ⟨ties⟩⟩) h.1 h.2.1]
  simp only [M.ok_bind]
  rw [steps_from_eq (w := ⟨⟨sides⟩, ⟨ties⟩⟩) hp.1 hp.2 hn]
  simp only [M.ok_bind]
  rw [M.comp_filter (fun f => !decide ((tl ties f).2 = (tl ties (bk s)).2)) fun x hx => ?_]
  · rw [List.filter_filter]
    congr 2
    funext f
    rw [Bool.and_comm]
  · have hm := mem_allSteps.mp (List.mem_filter.mp hx).1
    rw [tail_eq (w := ⟨⟨sides⟩, ⟨ties⟩⟩) hm.1 hm.2.1]; rfl
end PM

/-! PG: loops with an invariant; what grouped computes; paired webs. -/
namespace G
open PySem L2
namespace M
variable {α β γ σ ρ : Type}
theorem sat_loop {c : σ → M Bool} {f : σ → M σ} {s0 : σ} {R : σ → Prop} (I : σ → Prop) (mu : σ → Nat) (h0 : I s0) (hc : ∀ s, I s → ∃ b, c s = .ok b ∧ (b = true → sat (f s) fun s' => I s' ∧ mu s' < mu s) ∧ (b = false → R s)) : sat (loop c f s0) R := by
  suffices ∀ n s, mu s ≤ n → I s → sat (loop c f s) R from this _ s0 (Nat.le_refl _) h0
  intro n
  induction n with
  | zero =>
    intro s hn hs
    obtain ⟨b, e, h1, h2⟩ := hc s hs
    rw [loop_eq, e]
    cases b with
    | true => obtain ⟨s', _, _, hl⟩ := h1 rfl; omega
    | false => exact ⟨s, rfl, h2 rfl⟩
  | succ n ih =>
    intro s hn hs
    obtain ⟨b, e, h1, h2⟩ := hc s hs
    rw [loop_eq, e]
    cases b with
    | true =>
      obtain ⟨s', e', hi, hl⟩ := h1 rfl
      simp only [ok_bind, if_true]
      rw [e']
      exact ih s' (by omega) hi
    | false => exact ⟨s, rfl, h2 rfl⟩
/-- a for whose turns may leave -/
theorem sat_foldC {f : σ → α → M (Ct σ ρ)} {Q : Ct σ ρ → Prop} : ∀ {xs : List α} {s0 : σ} (P : Nat → σ → Prop), P 0 s0 → (∀ i x s, xs[i]? = some x → P i s → sat (f s x) fun c => match c with | .nx s' => P (i + 1) s' | c => Q c) → (∀ s, P xs.length s → Q (.nx s)) → sat (foldC f s0 xs) Q
  | [], s0, P, h0, _, he => ⟨_, rfl, he s0 h0⟩
  | x :: xs, s0, P, h0, hs, he => by
    obtain ⟨c, e, hc⟩ := hs 0 x s0 rfl h0
    simp only [foldC]
    rw [e]
    simp only [ok_bind]
    cases c with
    | nx s' => exact sat_foldC (fun i s => P (i + 1) s) hc (fun i y s hy hp => hs (i + 1) y s hy hp) fun s hp => he s hp
    | rt r => exact ⟨_, rfl, hc⟩
    | bk s' => exact ⟨_, rfl, hc⟩
theorem sat_val {m : M α} {x : α} (h : sat m (· = x)) : m = .ok x := by obtain ⟨y, e, rfl⟩ := h; exact e
theorem popL_snoc {xs : List α} {x : α} : M.popL (xs ++ [x]) = .ok (xs, x) := by
  unfold M.popL
  rw [List.getLast?_concat]
  simp
theorem sadd_new {s : IS} {x : Int} (h : x ∉ s.l) (hl : s.l.length ≤ 4000) : M.sadd s (.ok x) = .ok ⟨s.l ++ [x]⟩ := by
  unfold M.sadd
  simp only [ok_bind]
  rw [asrt_pos (show s.l.length + 1 < PySem.scanBound from Nat.lt_of_le_of_lt (show s.l.length + 1 ≤ 4001 by omega) (by decide))]
  unfold isAdd
  rw [if_neg h]
theorem appDI_ok {x : DI (List α)} {n : Int} {y : α} {xs : List α} (h : x.kv.lookup n = some xs) (hl : xs.length ≤ 100000) : M.appDI x (.ok n) (.ok y) = .ok ⟨setI x.kv n (xs ++ [y])⟩ := by
  unfold M.appDI
  simp only [ok_bind]
  rw [h]
  simp only [ofO_some, ok_bind]
  exact asrt_pos (small1k hl)
theorem dcomp_nil {xs : List Int} {v : Int → β} (hn : xs.Nodup) (hl : xs.length ≤ 100000) : M.dcomp (fun _ => .ok true) (fun x => .ok x) (fun x => .ok (v x)) xs = .ok ⟨xs.map fun k => (k, v k)⟩ := by
  unfold M.dcomp
  rw [fold_eq (⟨[]⟩ : DI β) (fun i => ⟨(xs.take i).map fun k => (k, v k)⟩) rfl fun i x hx => ?_]
  · rw [List.take_length]
  · have hlt := (List.getElem?_eq_some_iff.mp hx).1
    simp only [calm_of_ok, ok_bind, if_true]
    have h1 : ((xs.take i).map fun k => (k, v k)).lookup x = none := by
      refine lookup_none_of fun p hp => ?_
      rw [List.mem_map] at hp
      obtain ⟨k, hk, rfl⟩ := hp
      intro e
      have e' : k = x := e
      subst e'
      obtain ⟨j, hj, e2⟩ := List.mem_take_iff_getElem.mp hk
      obtain ⟨hi', e3⟩ := List.getElem?_eq_some_iff.mp hx
      exact List.pairwise_iff_getElem.mp (List.nodup_iff_pairwise_ne.mp hn) j i (by omega) hlt (by omega) (e2.trans e3.symm)
    have h2 : ((xs.take i).map fun k => (k, v k)).length < PySem.sizeLine := by
      rw [List.length_map, List.length_take]
      exact small1k (by omega)
    rw [asrt_pos ⟨h1, h2⟩, List.take_add_one, hx, List.map_append]
    rfl
end M
end G
namespace PM
open PySem L2 G
theorem grouped_eq {pts : List Int} {ties : List (Int × Int)} (hn : pts.Nodup) (hp : pts.length ≤ 1000) (ht : ties.length ≤ 1000) : p_grouped_m pts ties = .ok (groupsOf pts ties) := by
  refine M.sat_val ?_
  unfold p_grouped_m
  rw [M.dcomp_nil hn (by omega)]
  simp only [M.ok_bind]
  refine M.sat_bind (M.sat_fold (fun i (s : DI (List Int)) => NearOk pts (ties.take i) s.kv) (near_start hn) fun i x s hx hs => ?_) fun near hk => ?_
  · have htk : ties.take (i + 1) = ties.take i ++ [(x.1, x.2)] := by rw [List.take_add_one, hx]; rfl
    have hlt := (List.getElem?_eq_some_iff.mp hx).1
    rw [htk]
    have hlen : ∀ k xs, s.kv.lookup k = some xs → xs.length ≤ 2 * i := fun k xs e => by
      have := (hs.items k xs e).2
      rw [List.length_take] at this
      omega
    refine M.sat_if (fun hb => ?_) fun hb => M.sat_ok (near_skip hs fun ⟨a, b⟩ => ?_)
    · rw [Bool.and_eq_true] at hb
      obtain ⟨xa, ea⟩ := Option.isSome_iff_exists.mp hb.1
      obtain ⟨xb0, eb0⟩ := Option.isSome_iff_exists.mp hb.2
      rw [M.appDI_ok ea (by have := hlen _ _ ea; omega)]
      simp only [M.ok_bind]
      have hb2 : ∃ xb, (setI s.kv x.1 (xa ++ [x.2])).lookup x.2 = some xb ∧ xb.length ≤ 2 * i + 1 := by
        rw [lookup_setI]
        by_cases e : x.2 = x.1
        · rw [if_pos e, ea]; exact ⟨_, rfl, by have := hlen _ _ ea; simp; omega⟩
        · rw [if_neg e]; exact ⟨xb0, eb0, by have := hlen _ _ eb0; omega⟩
      obtain ⟨xb, eb, hbl⟩ := hb2
      rw [M.appDI_ok (x := ⟨setI s.kv x.1 (xa ++ [x.2])⟩) eb (by omega)]
      exact ⟨_, rfl, near_step hs ((hs.has _).mp hb.1) ((hs.has _).mp hb.2) ea eb⟩
    · rw [(hs.has _).mpr a, (hs.has _).mpr b] at hb
      cases hb
  rw [List.take_length] at hk
  refine M.sat_bind (M.sat_fold (fun i (s : List (List Int) × IS) => s.1 = (firsts pts ties ((isort pts).take i)).map (compOf pts ties) ∧ Seen pts ties ((isort pts).take i) s.2.l) ⟨rfl, ⟨List.nodup_nil, fun x => by simp⟩⟩ fun i x s hx ⟨hg, hs⟩ => ?_) fun s ⟨hg, _⟩ => M.sat_ok ?_
  · have htk : (isort pts).take (i + 1) = (isort pts).take i ++ [x] := by rw [List.take_add_one, hx]; rfl
    have hxm : x ∈ pts := mem_isort.mp (List.mem_of_getElem? hx)
    have hmin := min_iff hn hx hs
    have hseen : s.2.l.length ≤ pts.length := len_le hs.nd fun y hy => ((hs.mem y).mp hy).1
    have hgl : s.1.length ≤ 1000 := by
      rw [hg, List.length_map]
      have h1 : (firsts pts ties ((isort pts).take i)).length ≤ ((isort pts).take i).length := List.length_filter_le _ _
      rw [List.length_take, (isort_perm pts).length_eq] at h1
      omega
    refine M.sat_if (fun hb => ?_) fun hb => ?_
    · have hns : x ∉ s.2.l := by simpa [memB] using hb
      rw [M.sadd_new hns (by omega)]
      simp only [M.ok_bind]
      have h0 := hs.start hxm hns
      refine M.sat_bind (R1 := fun st : IS × List Int × List Int => Dfs pts ties s.2.l x st.1.l st.2.1 []) (M.sat_loop (fun st : IS × List Int × List Int => Dfs pts ties s.2.l x st.1.l st.2.1 st.2.2) (fun st => pts.length + 1 - st.2.1.length) h0 fun st hst => ⟨_, rfl, fun hb => ?_, fun hb => ?_⟩) fun st hd => ?_
      · have hall : (st.2.1 ++ st.2.2).length ≤ pts.length := len_le hst.nd fun y hy => (hst.re y hy).2
        rw [List.length_append] at hall
        have hne : st.2.2 ≠ [] := by simpa using hb
        obtain ⟨ws, m, hw⟩ : ∃ ws m, st.2.2 = ws ++ [m] := ⟨_, _, (List.dropLast_concat_getLast hne).symm⟩
        rw [hw] at hst hall
        rw [List.length_append] at hall
        rw [hw, M.popL_snoc]
        simp only [M.ok_bind]
        rw [M.push_small (by omega)]
        simp only [M.ok_bind]
        have hmp : m ∈ pts := (hst.re m (by simp)).2
        obtain ⟨xs, exs⟩ := Option.isSome_iff_exists.mp ((hk.has m).mpr hmp)
        rw [exs]
        simp only [M.ofO_some, M.ok_bind]
        refine M.sat_bind (M.sat_fold (fun i (q : IS × List Int) => Dfs2 pts ties s.2.l x q.1.l (st.2.1 ++ [m]) q.2 m (xs.take i)) hst.take fun j z q hz hq => ?_) fun q hq => M.sat_ok ⟨?_, ?_⟩
        · have hzt : xs.take (j + 1) = xs.take j ++ [z] := by rw [List.take_add_one, hz]; rfl
          rw [hzt]
          have ad : Adj pts ties m z := ((hk.items m xs exs).1 z).mp (List.mem_of_getElem? hz)
          have hql : ((st.2.1 ++ [m]) ++ q.2).length ≤ pts.length := len_le hq.nd fun y hy => (hq.re y hy).2
          rw [List.length_append] at hql
          have hqs : q.1.l.length ≤ pts.length := len_le hq.sn hq.sub
          refine M.sat_if (fun hb => ?_) fun hb => ?_
          · have hzn : z ∉ q.1.l := by simpa [memB] using hb
            rw [M.sadd_new hzn (by omega)]
            simp only [M.ok_bind]
            rw [M.push_small (by omega)]
            exact ⟨_, rfl, hq.push ad hzn⟩
          · have hzm : z ∈ q.1.l := by simpa [memB] using hb
            exact ⟨_, rfl, hq.skip hzm⟩
        · rw [List.take_length] at hq
          exact hq.back fun z a => ((hk.items m xs exs).1 z).mpr a
        · show pts.length + 1 - (st.2.1 ++ [m]).length < pts.length + 1 - st.2.1.length
          rw [List.length_append]
          simp only [List.length_singleton, List.length_cons, List.length_nil] at hall ⊢
          omega
      · have he : st.2.2 = [] := by simpa using hb
        rw [he] at hst
        exact hst
      · rw [M.push_small (by omega)]
        refine ⟨_, rfl, ?_, ?_⟩
        · show s.1 ++ [isort st.2.1] = _
          rw [(firsts_take i hx).1 (hmin.mpr hns), List.map_append, hg]
          congr 1
          rw [isort_comp hn (by have := hd.nd; simpa using this) fun y => hd.done (fun a b => hs.clo a b) hns y]
          rfl
        · rw [htk]
          exact hs.next hns hd
    · have hms : x ∈ s.2.l := by simpa [memB] using hb
      refine M.sat_ok ⟨?_, ?_⟩
      · show s.1 = _
        rw [(firsts_take i hx).2 fun z => (hmin.mp z) hms]
        exact hg
      · rw [htk]
        exact hs.skip hms
  · rw [hg, List.take_length]; rfl
end PM
namespace G
open PySem L2
namespace M
variable {α β γ σ ρ : Type}
end M
end G
namespace PM
open PySem L2 G
theorem rngL_nodup' (lo : Int) (n : Nat) : (rngL lo n).Nodup := by
  unfold rngL
  exact List.pairwise_map.mpr (List.Pairwise.imp (fun h z => h (by omega)) List.nodup_range)
end PM
namespace PM
open PySem L2 G
theorem setIx_ok {α : Type} {xs : List α} {i : Int} {j : Nat} {y : α} (hi : i = j) (hj : j < xs.length) : M.setIx xs (.ok i) (.ok y) = .ok (xs.set j y) := by
  unfold M.setIx
  simp only [M.ok_bind]
  have : ixN xs.length i = some j := by
    subst hi
    unfold ixN
    rw [if_pos (by omega), if_pos (by omega)]
    simp
  rw [this]
end PM

/-! PW: wirings: what the shared makers make, and that Wiring takes it. -/
namespace PM
open PySem L2 G
theorem rngL_nodup (lo : Int) (n : Nat) : (rngL lo n).Nodup := by
  unfold rngL
  exact List.pairwise_map.mpr (List.Pairwise.imp (fun h z => h (by omega)) List.nodup_range)
theorem rangeL_ok {n : Int} (h0 : 0 ≤ n) (h1 : n ≤ 100000) : M.rangeL 0 n = .ok (rngL 0 n.toNat) := by
  unfold M.rangeL
  rw [M.asrt_pos ⟨by decide, by decide, by omega, by omega, by omega⟩, Int.sub_zero]
/-- the leaves of links, in their order -/
def flat (L : List (Int × Int)) : List Int := L.flatMap fun x => [x.1, x.2]
def parts (N : List (T3 Str Int Int)) : List Int := N.flatMap fun x => [x.b, x.c]
theorem flat_app (a b : List (Int × Int)) : flat (a ++ b) = flat a ++ flat b := List.flatMap_append
structure GoodL (L : List (Int × Int)) : Prop where
  pos : 0 < L.length
  most : L.length ≤ 40
  pm : (flat L).Perm (rngL 0 (2 * L.length))
theorem flat_split {L : List (Int × Int)} {i : Nat} {x : Int × Int} (h : L[i]? = some x) : flat L = flat (L.take i) ++ (x.1 :: x.2 :: flat (L.drop (i + 1))) := by
  obtain ⟨hl, e⟩ := List.getElem?_eq_some_iff.mp h
  have : L = L.take i ++ ([x] ++ L.drop (i + 1)) := by
    conv => lhs; rw [← List.take_append_drop i L]
    rw [List.drop_eq_getElem_cons hl, e]; rfl
  conv => lhs; rw [this]
  rw [flat_app, flat_app]; rfl
theorem sadd_new {s : List Int} {x : Int} (h : x ∉ s) (hl : s.length ≤ 1000) : M.sadd ⟨s⟩ (.ok x) = .ok ⟨s ++ [x]⟩ := by
  unfold M.sadd
  simp only [M.ok_bind]
  rw [M.asrt_pos (show s.length + 1 < PySem.scanBound from Nat.lt_of_le_of_lt (show s.length + 1 ≤ 1001 by omega) (by decide))]
  unfold isAdd
  rw [if_neg h]
theorem GoodL.mem {L : List (Int × Int)} (g : GoodL L) {i : Nat} {x : Int × Int} (h : L[i]? = some x) : (0 ≤ x.1 ∧ x.1 < 2 * L.length) ∧ (0 ≤ x.2 ∧ x.2 < 2 * L.length) := by
  have m1 : x.1 ∈ flat L := by rw [flat_split h]; simp
  have m2 : x.2 ∈ flat L := by rw [flat_split h]; simp
  have q1 := mem_rngL.mp (g.pm.mem_iff.mp m1)
  have q2 := mem_rngL.mp (g.pm.mem_iff.mp m2)
  omega
theorem GoodL.nd {L : List (Int × Int)} (g : GoodL L) : (flat L).Nodup := (List.Perm.nodup_iff g.pm).mpr (rngL_nodup _ _)
theorem lookup_app {β : Type} (a b : List (Int × β)) (m : Int) : (a ++ b).lookup m = match a.lookup m with | some x => some x | none => b.lookup m := by
  induction a with
  | nil => rfl
  | cons p a ih =>
    show List.lookup m (p :: (a ++ b)) = _
    rw [List.lookup_cons, List.lookup_cons]
    split
    · rfl
    · exact ih
theorem lookup_putI {β : Type} (kv : List (Int × β)) (k : Int) (v : β) (m : Int) : (putI kv k v).lookup m = if m = k then some v else kv.lookup m := by
  unfold putI
  by_cases hs : (kv.lookup k).isSome = true
  · rw [if_pos hs]
    induction kv with
    | nil => cases hs
    | cons p kv ih =>
      rw [List.map_cons, List.lookup_cons, List.lookup_cons]
      rw [List.lookup_cons] at hs
      by_cases hp : p.1 = k
      · rw [if_pos hp]
        by_cases hm : m = k
        · rw [if_pos hm, beq_iff_eq.mpr hm]
        · have e1 : (m == k) = false := by simpa using hm
          have e2 : (m == p.1) = false := by rw [hp]; exact e1
          show (match (m == k) with | true => _ | false => _) = _
          rw [e1, if_neg hm, e2]
          show List.lookup m (kv.map _) = List.lookup m kv
          clear ih hs
          induction kv with
          | nil => rfl
          | cons q kv ih2 =>
            rw [List.map_cons, List.lookup_cons, List.lookup_cons]
            by_cases hq : q.1 = k
            · rw [if_pos hq]
              show (match (m == k) with | true => _ | false => _) = _
              rw [e1, show (m == q.1) = false by rw [hq]; exact e1]
              exact ih2
            · rw [if_neg hq]
              split
              · rfl
              · exact ih2
      · have e3 : (k == p.1) = false := by simpa using fun z => hp z.symm
        rw [e3] at hs
        rw [if_neg hp]
        by_cases hm : m = p.1
        · have : m ≠ k := fun z => hp (by rw [← hm, z])
          rw [beq_iff_eq.mpr hm, if_neg this]
        · rw [show (m == p.1) = false by simpa using hm]
          exact ih hs
  · rw [if_neg hs, lookup_app]
    by_cases hm : m = k
    · subst hm
      rw [if_pos rfl]
      cases hl : kv.lookup m with
      | some x => rw [hl] at hs; exact absurd rfl hs
      | none => show List.lookup m [(m, v)] = _; rw [List.lookup_cons, beq_self_eq_true]
    · rw [if_neg hm]
      cases hl : kv.lookup m with
      | some x => rfl
      | none => show List.lookup m [(k, v)] = _; rw [List.lookup_cons, show (m == k) = false by simpa using hm]; rfl
theorem dput_ok {x : DI Int} {n y : Int} (h : x.kv.length ≤ 10000) : M.dput x (.ok n) (.ok y) = .ok ⟨putI x.kv n y⟩ := by
  unfold M.dput
  simp only [M.ok_bind]
  rw [M.asrt_pos (small1k (by omega))]
end PM

/-! PS: _law_same of a thing and itself. -/
namespace PM
open PySem L2 G
/-- plain data of this depth, no list or tuple long -/
inductive OkU : Nat → PyData → Prop
  | none {n : Nat} : OkU (n + 1) .none
  | bool {n : Nat} (b : Bool) : OkU (n + 1) (.bool b)
  | int {n : Nat} (i : Int) : OkU (n + 1) (.int i)
  | str {n : Nat} (s : Str) : OkU (n + 1) (.str s)
  | list {n : Nat} {ds : List PyData} (hl : ds.length ≤ 100000) (h : ∀ d ∈ ds, OkU n d) : OkU (n + 1) (.list ds)
  | tuple {n : Nat} {ds : List PyData} (hl : ds.length ≤ 100000) (h : ∀ d ∈ ds, OkU n d) : OkU (n + 1) (.tuple ds)
theorem OkU.up {n : Nat} {e : PyData} (h : OkU n e) : OkU (n + 1) e := by
  induction h with
  | none => exact .none
  | bool b => exact .bool b
  | int i => exact .int i
  | str s => exact .str s
  | list hl _ ih => exact .list hl ih
  | tuple hl _ ih => exact .tuple hl ih
theorem same_items {ds : List PyData} {rec_ : PyData → PyData → M Bool} (hl : ds.length ≤ 100000) (h : ∀ d ∈ ds, rec_ d d = .ok true) :
    (M.range (ds.length : Int) >>= fun l17 => M.foldC (fun (_ : Unit) x8 => ((M.ix ds x8 >>= fun t11 => M.ix ds x8 >>= fun t12 => rec_ t11 t12) >>= fun t13 => M.ok (!t13)) >>= fun b14 => if b14 then (M.ok false >>= fun r => .ok (.rt r)) else M.ok (.nx ())) () l17 >>= fun c16 => Ct.go c16 M.ok fun (_ : Unit) => M.ok true) = .ok true := by
  rw [M.rangeN hl, M.ok_bind, M.foldC_unit _ fun z hz => ?_]
  · rfl
  · obtain ⟨h0, h1⟩ := mem_rngL.mp hz
    obtain ⟨d, hd, e⟩ := M.ix_some (xs := ds) (i := z) h0 (by omega)
    rw [e]
    simp only [M.ok_bind]
    rw [h d (List.mem_of_getElem? hd)]
    rfl
theorem same_refl {n : Nat} {e : PyData} (h : OkU n e) : l_same_m n e e = .ok true := by
  induction h with
  | none => rfl
  | @bool n b =>
    show l_same_step _ _ _ = _
    unfold l_same_step
    simp only [isNoneU, isU, tyU, isTy]
    rw [M.asrt_pos (by simp [PyData.depth])]
    simp [PyData.eqv]
  | @int n i =>
    show l_same_step _ _ _ = _
    unfold l_same_step
    simp only [isNoneU, isU, tyU, isTy]
    rw [M.asrt_pos (by simp [PyData.depth])]
    simp [PyData.eqv]
  | @str n s =>
    show l_same_step _ _ _ = _
    unfold l_same_step
    simp only [isNoneU, isU, tyU, isTy]
    rw [M.asrt_pos (by simp [PyData.depth])]
    simp [PyData.eqv]
  | @list n ds hl _ ih =>
    show l_same_step (l_same_m n) _ _ = _
    have := same_items hl ih
    unfold l_same_step
    simp only [isNoneU, isU, tyU, isTy, itemsU]
    simpa using this
  | @tuple n ds hl _ ih =>
    show l_same_step (l_same_m n) _ _ = _
    have := same_items hl ih
    unfold l_same_step
    simp only [isNoneU, isU, tyU, isTy, itemsU]
    simpa using this
end PM

/-! QS: facings in plain Lean: a direction for each tie that all followers keep; they are none, or one choice for each group of ties. -/
namespace QS
open PySem L2 G PM
theorem bkk (s : Int × Int) : bk (bk s) = s := by
  obtain ⟨a, b⟩ := s
  show (a, 1 - (1 - b)) = (a, b)
  rw [show 1 - (1 - b) = b by omega]
section
variable {ties : List T4I}
theorem mem_fols {s a : Int × Int} : a ∈ fols ties s ↔ IsStep ties a ∧ (tl ties a).1 = (tl ties (bk s)).1 ∧ (tl ties a).2 ≠ (tl ties (bk s)).2 := by
  unfold fols
  rw [List.mem_filter, mem_allSteps]
  simp only [Bool.and_eq_true, decide_eq_true_eq, Bool.not_eq_true', decide_eq_false_iff_not]
  exact Iff.rfl
/-- steps and their followers -/
def EE (ties : List T4I) : List ((Int × Int) × (Int × Int)) := (allSteps ties.length).flatMap fun s => (fols ties s).map fun a => (s, a)
theorem mem_EE {s a : Int × Int} : (s, a) ∈ EE ties ↔ IsStep ties s ∧ a ∈ fols ties s := by
  unfold EE
  simp only [List.mem_flatMap, List.mem_map, Prod.mk.injEq]
  constructor
  · rintro ⟨s', hs, a', ha, rfl, rfl⟩; exact ⟨mem_allSteps.mp hs, ha⟩
  · rintro ⟨hs, ha⟩; exact ⟨s, mem_allSteps.mpr hs, a, ha, rfl, rfl⟩
theorem EE_bk {s a : Int × Int} (h : (s, a) ∈ EE ties) : (bk a, bk s) ∈ EE ties := by
  obtain ⟨hs, ha⟩ := mem_EE.mp h
  obtain ⟨h1, h2, h3⟩ := mem_fols.mp ha
  refine mem_EE.mpr ⟨h1.bk, mem_fols.mpr ⟨hs.bk, ?_, ?_⟩⟩
  · rw [bkk]; exact h2.symm
  · rw [bkk]; exact fun e => h3 e.symm
/-- the ties that steps and followers join -/
def JJ (ties : List T4I) : List (Int × Int) := (EE ties).map fun p => (p.1.1, p.2.1)
abbrev PTS (ties : List T4I) : List Int := rngL 0 ties.length
theorem mem_PTS {t : Int} : t ∈ PTS ties ↔ 0 ≤ t ∧ t < ties.length := by rw [mem_rngL]; omega
theorem EE_pts {s a : Int × Int} (h : (s, a) ∈ EE ties) : s.1 ∈ PTS ties ∧ a.1 ∈ PTS ties := by
  obtain ⟨hs, ha⟩ := mem_EE.mp h
  obtain ⟨h1, _⟩ := mem_fols.mp ha
  exact ⟨mem_PTS.mpr ⟨hs.1, hs.2.1⟩, mem_PTS.mpr ⟨h1.1, h1.2.1⟩⟩
theorem adj_EE {u v : Int} (h : Adj (PTS ties) (JJ ties) u v) : ∃ s a, (s, a) ∈ EE ties ∧ s.1 = u ∧ a.1 = v := by
  have key : ∀ {x y : Int}, (x, y) ∈ JJ ties → ∃ s a, (s, a) ∈ EE ties ∧ s.1 = x ∧ a.1 = y := fun {x y} h => by
    obtain ⟨p, hp, e⟩ := List.mem_map.mp h
    obtain ⟨s, a⟩ := p
    simp only [Prod.mk.injEq] at e
    exact ⟨s, a, hp, e.1, e.2⟩
  rcases h.2.2 with q | q
  · exact key q
  · obtain ⟨s, a, h1, h2, h3⟩ := key q
    exact ⟨bk a, bk s, EE_bk h1, h3, h2⟩
theorem EE_adj {s a : Int × Int} (h : (s, a) ∈ EE ties) : Adj (PTS ties) (JJ ties) s.1 a.1 := ⟨(EE_pts h).1, (EE_pts h).2, .inl (List.mem_map.mpr ⟨(s, a), h, rfl⟩)⟩
/-- the directions f are kept -/
def Keep (ties : List T4I) (f : Int → Int) : Prop := ∀ s a, (s, a) ∈ EE ties → (f s.1 = s.2 ↔ f a.1 = a.2)
def B01 (ties : List T4I) (f : Int → Int) : Prop := ∀ t ∈ PTS ties, f t = 0 ∨ f t = 1
theorem agree {x y x' y' p q : Int} (hx : x = 0 ∨ x = 1) (hy : y = 0 ∨ y = 1) (hx' : x' = 0 ∨ x' = 1) (hy' : y' = 0 ∨ y' = 1) (hp : p = 0 ∨ p = 1) (hq : q = 0 ∨ q = 1) (h : x = p ↔ y = q) : (x' = p ↔ y' = q) ↔ (x = x' ↔ y = y') := by
  rcases hx with rfl | rfl <;> rcases hy with rfl | rfl <;> rcases hx' with rfl | rfl <;> rcases hy' with rfl | rfl <;> rcases hp with rfl | rfl <;> rcases hq with rfl | rfl <;> simp_all
theorem keep_agree {f g : Int → Int} (hf : B01 ties f) (hg : B01 ties g) (kf : Keep ties f) : Keep ties g ↔ ∀ s a, (s, a) ∈ EE ties → (f s.1 = g s.1 ↔ f a.1 = g a.1) := by
  have one : ∀ s a, (s, a) ∈ EE ties → ((g s.1 = s.2 ↔ g a.1 = a.2) ↔ (f s.1 = g s.1 ↔ f a.1 = g a.1)) := fun s a h => by
    obtain ⟨h1, h2⟩ := EE_pts h
    obtain ⟨hs, ha⟩ := mem_EE.mp h
    exact agree (hf _ h1) (hf _ h2) (hg _ h1) (hg _ h2) hs.2.2 (mem_fols.mp ha).1.2.2 (kf s a h)
  exact ⟨fun k s a h => (one s a h).mp (k s a h), fun k s a h => (one s a h).mpr (k s a h)⟩
theorem agree_reach {f g : Int → Int} (h : ∀ s a, (s, a) ∈ EE ties → (f s.1 = g s.1 ↔ f a.1 = g a.1)) {u v : Int} (r : Reach (PTS ties) (JJ ties) u v) : f u = g u ↔ f v = g v := by
  induction r with
  | refl => exact Iff.rfl
  | tail _ a ih =>
    obtain ⟨s, b, hE, rfl, rfl⟩ := adj_EE a
    exact ih.trans (h s b hE)
theorem keep_reach {f g : Int → Int} (hf : B01 ties f) (hg : B01 ties g) (kf : Keep ties f) (kg : Keep ties g) {u v : Int} (r : Reach (PTS ties) (JJ ties) u v) : f u = g u ↔ f v = g v := agree_reach ((keep_agree hf hg kf).mp kg) r
/-- the lowest tie of the group -/
noncomputable def rt (ties : List T4I) (t : Int) : Int := if h : t ∈ PTS ties then Classical.choose (exists_min (ties := JJ ties) (rngL_nodup' 0 ties.length) h) else t
theorem rt_spec {t : Int} (h : t ∈ PTS ties) : rt ties t ∈ PTS ties ∧ IsMin (PTS ties) (JJ ties) (rt ties t) ∧ Reach (PTS ties) (JJ ties) (rt ties t) t := by
  unfold rt
  rw [dif_pos h]
  obtain ⟨h1, h2, h3⟩ := Classical.choose_spec (exists_min (ties := JJ ties) (rngL_nodup' 0 ties.length) h)
  exact ⟨h1, h2, h3⟩
theorem rt_reach {u v : Int} (hu : u ∈ PTS ties) (hv : v ∈ PTS ties) : rt ties u = rt ties v ↔ Reach (PTS ties) (JJ ties) u v := by
  obtain ⟨a1, a2, a3⟩ := rt_spec hu
  obtain ⟨b1, b2, b3⟩ := rt_spec hv
  constructor
  · intro e; rw [e] at a3; exact a3.symm.trans b3
  · intro r; exact min_unique a1 b1 a2 b2 (a3.trans r) b3
theorem rt_min {t : Int} (h : t ∈ PTS ties) : rt ties t = t ↔ IsMin (PTS ties) (JJ ties) t := by
  obtain ⟨a1, a2, a3⟩ := rt_spec h
  constructor
  · intro e; rw [e] at a2; exact a2
  · intro m; exact min_unique a1 h a2 m a3 (.refl t)
theorem rt_le {t : Int} (h : t ∈ PTS ties) : rt ties t ≤ t := by
  obtain ⟨a1, a2, a3⟩ := rt_spec h
  exact a2 t h a3
theorem rt_rt {t : Int} (h : t ∈ PTS ties) : rt ties (rt ties t) = rt ties t := (rt_min (rt_spec h).1).mpr (rt_spec h).2.1
/-- what agrees within each group with directions that are kept is kept -/
theorem keep_iff {f g : Int → Int} (hf : B01 ties f) (hg : B01 ties g) (kf : Keep ties f) : Keep ties g ↔ ∀ t ∈ PTS ties, (f t = g t ↔ f (rt ties t) = g (rt ties t)) := by
  constructor
  · intro kg t ht
    exact (keep_reach hf hg kf kg (rt_spec ht).2.2).symm
  · intro h
    refine (keep_agree hf hg kf).mpr fun s a hE => ?_
    obtain ⟨h1, h2⟩ := EE_pts hE
    rw [h _ h1, h _ h2, (rt_reach h1 h2).mpr (.tail (.refl _) (EE_adj hE))]
/-- the same with 0 at the lowest tie of each group -/
noncomputable def low0 (ties : List T4I) (f : Int → Int) (t : Int) : Int := if f (rt ties t) = 0 then f t else 1 - f t
theorem low0_b {f : Int → Int} (hf : B01 ties f) : B01 ties (low0 ties f) := fun t ht => by
  unfold low0
  have := hf t ht
  split <;> omega
theorem low0_keep {f : Int → Int} (hf : B01 ties f) (kf : Keep ties f) : Keep ties (low0 ties f) := (keep_iff hf (low0_b hf) kf).mpr fun t ht => by
  unfold low0
  rw [rt_rt ht]
  have h1 := hf t ht
  have h2 := hf _ (rt_spec ht).1
  split <;> omega
theorem low0_rt {f : Int → Int} (hf : B01 ties f) {t : Int} (ht : t ∈ PTS ties) (e : rt ties t = t) : low0 ties f t = 0 := by
  unfold low0
  rw [e]
  have := hf t ht
  split <;> omega
end
/-! rows -/
def gd (r : List Int) (t : Int) : Int := r.getD t.toNat 0
section
variable {ties : List T4I}
/-- a facing -/
def Fac (ties : List T4I) (r : List Int) : Prop := r.length = ties.length ∧ (∀ x ∈ r, x = 0 ∨ x = 1) ∧ Keep ties (gd r)
noncomputable instance decFac {r : List Int} : Decidable (Fac ties r) := Classical.propDecidable _
theorem gd_mem {r : List Int} {t : Int} (h0 : 0 ≤ t) (h1 : t < r.length) : gd r t ∈ r := getD_mem h0 h1
theorem Fac.b {r : List Int} (h : Fac ties r) : B01 ties (gd r) := fun t ht => h.2.1 _ (gd_mem (mem_PTS.mp ht).1 (by rw [h.1]; exact (mem_PTS.mp ht).2))
theorem gd_map {f : Int → Int} {n : Nat} {t : Int} (h0 : 0 ≤ t) (h1 : t < n) : gd ((rngL 0 n).map f) t = f t := by
  unfold gd
  rw [List.getD_eq_getElem?_getD, List.getElem?_map, ← rng_get]
  have : t.toNat < n := by omega
  unfold rng
  rw [if_pos this]
  simp only [Option.map_some, Option.getD_some]
  congr 1
  omega
theorem keep_congr {f g : Int → Int} (h : ∀ t ∈ PTS ties, f t = g t) : Keep ties f ↔ Keep ties g := by
  unfold Keep
  constructor
  · intro k s a hE; rw [← h _ (EE_pts hE).1, ← h _ (EE_pts hE).2]; exact k s a hE
  · intro k s a hE; rw [h _ (EE_pts hE).1, h _ (EE_pts hE).2]; exact k s a hE
theorem fac_map {f : Int → Int} (hb : B01 ties f) (hk : Keep ties f) : Fac ties ((rngL 0 ties.length).map f) := by
  refine ⟨by rw [List.length_map, rngL_len], fun x hx => ?_, ?_⟩
  · obtain ⟨t, ht, rfl⟩ := List.mem_map.mp hx
    exact hb t ht
  · exact (keep_congr fun t ht => gd_map (mem_PTS.mp ht).1 (mem_PTS.mp ht).2).mpr hk
theorem row_ext {r q : List Int} {n : Nat} (h1 : r.length = n) (h2 : q.length = n) (h : ∀ t : Int, 0 ≤ t → t < n → gd r t = gd q t) : r = q := by
  refine List.ext_getElem (by omega) fun i hi hj => ?_
  have := h (i : Int) (by omega) (by omega)
  unfold gd at this
  rw [List.getD_eq_getElem?_getD, List.getD_eq_getElem?_getD, Int.toNat_natCast, List.getElem?_eq_getElem hi, List.getElem?_eq_getElem hj] at this
  exact this
/-- what starts with 0 at lowest ties and goes on as any facing does is a facing, if there is one -/
theorem fac_forced {r q : List Int} (hq : Fac ties q) (hl : r.length = ties.length) (h : ∀ t ∈ PTS ties, gd r t = low0 ties (gd q) t) : Fac ties r := by
  have e : r = (rngL 0 ties.length).map (low0 ties (gd q)) := row_ext hl (by rw [List.length_map, rngL_len]) fun t h0 h1 => by
    rw [gd_map h0 h1]
    exact h t (mem_PTS.mpr ⟨h0, h1⟩)
  rw [e]
  exact fac_map (low0_b hq.b) (low0_keep hq.b hq.2.2)
end
/-! all rows, and how many of them are facings -/
def rows01 : Nat → List (List Int)
  | 0 => [[]]
  | n + 1 => (rows01 n).map (· ++ [0]) ++ (rows01 n).map (· ++ [1])
theorem rows_at : ∀ {n : Nat} {r : List Int}, r ∈ rows01 n → r.length = n ∧ ∀ x ∈ r, x = 0 ∨ x = 1
  | 0, r, h => by
    have : r = [] := by simpa [rows01] using h
    subst this
    exact ⟨rfl, fun x hx => nomatch hx⟩
  | n + 1, r, h => by
    rw [rows01, List.mem_append, List.mem_map, List.mem_map] at h
    rcases h with ⟨q, hq, rfl⟩ | ⟨q, hq, rfl⟩ <;> obtain ⟨h1, h2⟩ := rows_at hq <;>
      exact ⟨by simp [h1], fun x hx => by
        rcases List.mem_append.mp hx with k | k
        · exact h2 x k
        · simp at k; omega⟩
/-- r agrees with F as its lowest one does, for the first m -/
def Agr (F L : Int → Int) (m : Nat) (r : List Int) : Prop := ∀ t : Int, 0 ≤ t → t < m → (F t = gd r t ↔ F (L t) = gd r (L t))
noncomputable instance decAgr {F L : Int → Int} {m : Nat} {r : List Int} : Decidable (Agr F L m r) := Classical.propDecidable _
theorem gd_app {r : List Int} {x t : Int} (h0 : 0 ≤ t) (h1 : t < r.length) : gd (r ++ [x]) t = gd r t := by
  unfold gd
  rw [List.getD_eq_getElem?_getD, List.getD_eq_getElem?_getD, List.getElem?_append_left (by omega)]
theorem gd_last {r : List Int} {x : Int} : gd (r ++ [x]) r.length = x := by
  unfold gd
  rw [List.getD_eq_getElem?_getD, Int.toNat_natCast, List.getElem?_append_right (Nat.le_refl _)]
  simp
noncomputable def heads (L : Int → Int) (m : Nat) : Nat := ((rngL 0 m).filter fun t => decide (L t = t)).length
theorem heads_succ (L : Int → Int) (m : Nat) : heads L (m + 1) = heads L m + if L m = m then 1 else 0 := by
  unfold heads
  have : rngL 0 (m + 1) = rngL 0 m ++ [(m : Int)] := by unfold rngL; rw [List.range_succ, List.map_append]; simp
  rw [this, List.filter_append, List.length_append]
  by_cases h : L m = m
  · simp [h]
  · simp [h]
theorem count_agr {F L : Int → Int} : ∀ {m : Nat}, (∀ t : Int, 0 ≤ t → t < m → F t = 0 ∨ F t = 1) → (∀ t : Int, 0 ≤ t → t < m → 0 ≤ L t ∧ L t ≤ t) → ((rows01 m).filter fun r => decide (Agr F L m r)).length = 2 ^ heads L m
  | 0, _, _ => by
    have : Agr F L 0 [] := fun t h0 h1 => by omega
    simp [rows01, this, heads, rngL]
  | m + 1, hF, hL => by
    have ih := count_agr (m := m) (fun t h0 h1 => hF t h0 (by omega)) fun t h0 h1 => hL t h0 (by omega)
    have key : ∀ (x : Int) (r : List Int), r.length = m → (Agr F L (m + 1) (r ++ [x]) ↔ Agr F L m r ∧ (L m = m ∨ (F m = x ↔ F (L m) = gd r (L m)))) := fun x r hr => by
      have old : ∀ t : Int, 0 ≤ t → t < m → (gd (r ++ [x]) t = gd r t ∧ gd (r ++ [x]) (L t) = gd r (L t)) := fun t h0 h1 => by
        obtain ⟨a, b⟩ := hL t h0 (by omega)
        exact ⟨gd_app h0 (by omega), gd_app a (by omega)⟩
      have hl : gd (r ++ [x]) (m : Int) = x := by rw [← hr]; exact gd_last
      constructor
      · intro h
        refine ⟨fun t h0 h1 => ?_, ?_⟩
        · have := h t h0 (by omega)
          rw [(old t h0 h1).1, (old t h0 h1).2] at this
          exact this
        · have := h (m : Int) (by omega) (by omega)
          rw [hl] at this
          obtain ⟨a, b⟩ := hL (m : Int) (by omega) (by omega)
          by_cases e : L m = m
          · exact .inl e
          · rw [gd_app a (by omega)] at this
            exact .inr this
      · rintro ⟨h, h2⟩ t h0 h1
        by_cases e : t = m
        · subst e
          rw [hl]
          obtain ⟨a, b⟩ := hL (m : Int) (by omega) (by omega)
          rcases h2 with h2 | h2
          · rw [h2, hl]
          · by_cases e : L m = m
            · rw [e, hl]
            · rw [gd_app a (by omega)]; exact h2
        · have h1' : t < m := by omega
          rw [(old t h0 h1').1, (old t h0 h1').2]
          exact h t h0 h1'
    have hc : ∀ (x : Int) (l : List (List Int)), (∀ r ∈ l, r.length = m) → ((l.map (· ++ [x])).filter fun r => decide (Agr F L (m + 1) r)).length = (l.filter fun r => decide (Agr F L m r ∧ (L m = m ∨ (F m = x ↔ F (L m) = gd r (L m))))).length := fun x l hl => by
      rw [List.filter_map, List.length_map]
      congr 1
      refine List.filter_congr fun r hr => ?_
      exact decide_eq_decide.mpr (key x r (hl r hr))
    have hlen : ∀ r ∈ rows01 m, r.length = m := fun r hr => (rows_at hr).1
    rw [rows01, List.filter_append, List.length_append, hc 0 _ hlen, hc 1 _ hlen, heads_succ]
    by_cases e : L m = m
    · have z : ∀ x : Int, (fun r : List Int => decide (Agr F L m r ∧ (L m = m ∨ (F m = x ↔ F (L m) = gd r (L m))))) = fun r => decide (Agr F L m r) := fun x => funext fun r => decide_eq_decide.mpr ⟨fun h => h.1, fun h => ⟨h, .inl e⟩⟩
      rw [z, z, ih, if_pos e, Nat.pow_succ]
      omega
    · rw [if_neg e, Nat.add_zero, ← ih]
      have hFm := hF (m : Int) (by omega) (by omega)
      obtain ⟨a, b⟩ := hL (m : Int) (by omega) (by omega)
      have hFL := hF (L m) a (by omega)
      have sum : ∀ l : List (List Int), (∀ r ∈ l, r.length = m ∧ ∀ x ∈ r, x = 0 ∨ x = 1) → (l.filter fun r => decide (Agr F L m r ∧ (L m = m ∨ (F m = 0 ↔ F (L m) = gd r (L m))))).length + (l.filter fun r => decide (Agr F L m r ∧ (L m = m ∨ (F m = 1 ↔ F (L m) = gd r (L m))))).length = (l.filter fun r => decide (Agr F L m r)).length := by
        intro l
        induction l with
        | nil => intro _; rfl
        | cons r l il =>
          intro hr
          have q := il fun r' h' => hr r' (List.mem_cons_of_mem _ h')
          obtain ⟨h1, h2⟩ := hr r List.mem_cons_self
          have hg := h2 _ (gd_mem (r := r) (t := L m) a (by omega))
          by_cases hA : Agr F L m r
          · by_cases hx : F m = 0 ↔ F (L m) = gd r (L m)
            · have hy : ¬ (F m = 1 ↔ F (L m) = gd r (L m)) := by
                intro hy
                rcases hFm with f0 | f1
                · have h0 := hx.mp f0
                  have := hy.mpr h0
                  omega
                · have h0 := hy.mp f1
                  have := hx.mpr h0
                  omega
              simp only [List.filter_cons, hA, hx, hy, e, true_and, false_or, decide_true, decide_false, if_true, Bool.false_eq_true, if_false, List.length_cons] at q ⊢
              omega
            · have hy : (F m = 1 ↔ F (L m) = gd r (L m)) := by
                rcases hFm with f0 | f1
                · constructor
                  · intro z; omega
                  · intro z; exact absurd ⟨fun _ => z, fun _ => f0⟩ hx
                · constructor
                  · intro _
                    apply Classical.byContradiction
                    intro z
                    exact hx ⟨fun z0 => by omega, fun z1 => absurd z1 z⟩
                  · intro _; exact f1
              simp only [List.filter_cons, hA, hx, hy, e, true_and, false_or, decide_true, decide_false, if_true, Bool.false_eq_true, if_false, List.length_cons] at q ⊢
              omega
          · simp only [List.filter_cons, hA, false_and, decide_false, Bool.false_eq_true, if_false] at q ⊢
            exact q
      exact sum _ fun r hr => rows_at hr
section
variable {ties : List T4I}
/-- HOW MANY -/
theorem count_fac {q : List Int} (hq : Fac ties q) : ((rows01 ties.length).filter fun r => decide (Fac ties r)).length = 2 ^ heads (rt ties) ties.length := by
  rw [← count_agr (F := gd q) (L := rt ties) (m := ties.length) (fun t h0 h1 => hq.b t (mem_PTS.mpr ⟨h0, h1⟩)) fun t h0 h1 => ⟨(mem_PTS.mp (rt_spec (mem_PTS.mpr ⟨h0, h1⟩)).1).1, rt_le (mem_PTS.mpr ⟨h0, h1⟩)⟩]
  congr 1
  refine List.filter_congr fun r hr => decide_eq_decide.mpr ?_
  obtain ⟨h1, h2⟩ := rows_at hr
  have hb : B01 ties (gd r) := fun t ht => h2 _ (gd_mem (mem_PTS.mp ht).1 (by rw [h1]; exact (mem_PTS.mp ht).2))
  constructor
  · intro h t h0 h1
    exact (keep_iff hq.b hb hq.2.2).mp h.2.2 t (mem_PTS.mpr ⟨h0, h1⟩)
  · intro h
    exact ⟨h1, h2, (keep_iff hq.b hb hq.2.2).mpr fun t ht => h t (mem_PTS.mp ht).1 (mem_PTS.mp ht).2⟩
theorem count_none (h : ¬ ∃ q, Fac ties q) : ((rows01 ties.length).filter fun r => decide (Fac ties r)).length = 0 := by
  rw [List.length_eq_zero_iff, List.filter_eq_nil_iff]
  intro r _ z
  exact h ⟨r, by simpa using z⟩
end
end QS

namespace K13
open PySem L2 G PM
/-- the exceptions that may come up -/
def kn : XC → Bool := fun c => decide (c ∈ ([.BadSides, .TooLarge, .UnknownPlace, .UnknownSide, .UnknownTie] : List XC))
/-- _law_faced -/
noncomputable def l_faced_m (draws_here : (List Int)) (most_places : Int) (most_ties : Int) : M (T3 (List Int) (List (T4 Int Int Int Int)) (List Int)) :=
  (M.ok [(2 : Int), (2 : Int), (3 : Int), (2 : Int), (1 : Int), (4 : Int)]) >>= fun menu_1 =>
  ((l_pick_m draws_here (0 : Int) most_places) >>= fun t2 => (M.ok ((1 : Int) + t2))) >>= fun many_3 =>
  (M.ok ([] : (List Int))) >>= fun sides_4 =>
  (M.ok ([] : (List (Int × Int)))) >>= fun gates_5 =>
  (M.range many_3) >>= fun l41 =>
  M.fold (fun (s6 : ((List Int) × (List (Int × Int)))) x7 =>
    ((l_pick_m draws_here ((2 : Int) + ((3 : Int) * x7)) (6 : Int)) >>= fun t8 => (M.ix menu_1 t8)) >>= fun count_9 =>
      (l_pick_m draws_here ((3 : Int) + ((3 : Int) * x7)) count_9) >>= fun out_10 =>
      M.push s6.1 (M.ok count_9) >>= fun sides_11 =>
      M.push s6.2 ((((l_pick_m draws_here ((4 : Int) + ((3 : Int) * x7)) (count_9 - (1 : Int))) >>= fun t12 => (M.ok ((out_10 + (1 : Int)) + t12))) >>= fun t13 => (M.asrt (0 < count_9) (.ok (t13 % count_9)))) >>= fun t14 => (M.ok (out_10, t14))) >>= fun gates_15 =>
      M.ok (sides_11, gates_15)) (sides_4, gates_5) l41 >>= fun (s16 : ((List Int) × (List (Int × Int)))) =>
  (M.ok ([] : (List (T4 Int Int Int Int)))) >>= fun ties_17 =>
  (M.ok ([] : (List Int))) >>= fun directions_18 =>
  ((l_pick_m draws_here (1 : Int) (most_ties + (1 : Int))) >>= fun t20 => (M.range t20)) >>= fun l40 =>
  M.fold (fun (s19 : ((List (T4 Int Int Int Int)) × (List Int))) x21 =>
    (M.ok (((2 : Int) + ((3 : Int) * many_3)) + ((3 : Int) * x21))) >>= fun at__22 =>
      (l_pick_m draws_here at__22 many_3) >>= fun one_23 =>
      (l_pick_m draws_here (at__22 + (1 : Int)) many_3) >>= fun other_24 =>
      ((l_pick_m draws_here (at__22 + (2 : Int)) (2 : Int)) >>= fun t25 => (M.ok (decide (t25 = (0 : Int))))) >>= fun b38 => if b38 then
      M.push s19.1 (((M.ix s16.2 one_23) >>= fun t26 => (M.ok t26.1)) >>= fun t28 => (((M.ix s16.2 other_24) >>= fun t27 => (M.ok t27.2)) >>= fun t29 => (M.ok ⟨one_23, t28, other_24, t29⟩))) >>= fun ties_30 =>
        M.push s19.2 (M.ok (0 : Int)) >>= fun directions_31 =>
        M.ok (ties_30, directions_31)
    else
      M.push s19.1 (((M.ix s16.2 other_24) >>= fun t32 => (M.ok t32.2)) >>= fun t34 => (((M.ix s16.2 one_23) >>= fun t33 => (M.ok t33.1)) >>= fun t35 => (M.ok ⟨other_24, t34, one_23, t35⟩))) >>= fun ties_36 =>
        M.push s19.2 (M.ok (1 : Int)) >>= fun directions_37 =>
        M.ok (ties_36, directions_37)) (ties_17, directions_18) l40 >>= fun (s39 : ((List (T4 Int Int Int Int)) × (List Int))) =>
  M.ok ⟨s16.1, s39.1, s39.2⟩
/-- _law_table -/
noncomputable def l_table_m (ties : (List (T4 Int Int Int Int))) : M (DK (Int × Int) (List (Int × Int))) :=
  (M.ok (⟨[]⟩ : (DK (Int × Int) (List (Int × Int))))) >>= fun table_here_1 =>
  (M.range (ties.length : Int)) >>= fun l30 =>
  M.fold (fun (s2 : (DK (Int × Int) (List (Int × Int)))) x3 =>
    (M.range (2 : Int)) >>= fun l28 =>
      M.fold (fun (s4 : (DK (Int × Int) (List (Int × Int)))) x5 =>
        ((M.ix ties x3) >>= fun t6 => (M.ofO (T4.at4 t6 ((2 : Int) - ((2 : Int) * x5))))) >>= fun place_7 =>
          ((M.ix ties x3) >>= fun t8 => (M.ofO (T4.at4 t8 ((3 : Int) - ((2 : Int) * x5))))) >>= fun side_9 =>
          (M.ok ([] : (List (Int × Int)))) >>= fun found_10 =>
          (M.range (ties.length : Int)) >>= fun l26 =>
          M.fold (fun (s11 : (List (Int × Int))) x12 =>
            (M.range (2 : Int)) >>= fun l23 =>
              M.fold (fun (s13 : (List (Int × Int))) x14 =>
                ((((M.ix ties x12) >>= fun t15 => (M.ofO (T4.at4 t15 ((2 : Int) * x14)))) >>= fun t16 => (M.ok (decide (t16 = place_7)))) >>= fun b19 => (if b19 then (((M.ix ties x12) >>= fun t17 => (M.ofO (T4.at4 t17 (((2 : Int) * x14) + (1 : Int))))) >>= fun t18 => (M.ok (!decide (t18 = side_9)))) else .ok false)) >>= fun b21 => if b21 then
                  M.push s13 (M.ok (x12, x14)) >>= fun found_20 =>
                    M.ok found_20
                else
                  M.ok s13) s11 l23 >>= fun (s22 : (List (Int × Int))) =>
              M.ok s22) found_10 l26 >>= fun (s24 : (List (Int × Int))) =>
          M.dputK s4 (M.ok (x3, x5)) (M.ok s24) >>= fun table_here_25 =>
          M.ok table_here_25) s2 l28 >>= fun (s27 : (DK (Int × Int) (List (Int × Int)))) =>
      M.ok s27) table_here_1 l30 >>= fun (s29 : (DK (Int × Int) (List (Int × Int)))) =>
  (M.ok s29)
/-- _law_labels -/
noncomputable def l_labels_m (table_here : (DK (Int × Int) (List (Int × Int)))) (many : Int) : M (List Int) :=
  (M.rangeL 0 many) >>= fun label_1 =>
  (M.range many) >>= fun l18 =>
  M.fold (fun (s2 : (List Int)) x3 =>
    (M.ok (table_here.kv.map Prod.fst)) >>= fun l16 =>
      M.fold (fun (s4 : (List Int)) x5 =>
        (M.ofO (lkD table_here.kv x5)) >>= fun l14 =>
          M.fold (fun (s6 : (List Int)) x7 =>
            ((M.ix s6 x5.1) >>= fun t8 => ((M.ix s6 x7.1) >>= fun t9 => (M.ok (if t9 < t8 then t9 else t8)))) >>= fun low_10 =>
              M.setIx s6 (M.ok x5.1) (M.ok low_10) >>= fun label_11 =>
              M.setIx label_11 (M.ok x7.1) (M.ok low_10) >>= fun label_12 =>
              M.ok label_12) s4 l14 >>= fun (s13 : (List Int)) =>
          M.ok s13) s2 l16 >>= fun (s15 : (List Int)) =>
      M.ok s15) label_1 l18 >>= fun (s17 : (List Int)) =>
  M.ok s17
/-- _law_carried -/
noncomputable def l_carried_m (table_here : (DK (Int × Int) (List (Int × Int)))) (directions : (List Int)) : M (Bool × (List Int)) :=
  (M.ok (table_here.kv.map Prod.fst)) >>= fun l19 =>
  M.foldC (fun (s1 : (List Int)) x2 =>
    (M.ofO (lkD table_here.kv x2)) >>= fun l16 =>
      M.foldC (fun (s3 : (List Int)) x4 =>
        (((M.ix s3 x2.1) >>= fun t5 => (M.ok (decide ((0 : Int) ≤ t5)))) >>= fun b7 => (if b7 then ((M.ix s3 x4.1) >>= fun t6 => (M.ok (decide (t6 < (0 : Int))))) else .ok false)) >>= fun b13 => if b13 then
          M.setIx s3 (M.ok x4.1) (M.ok x4.2) >>= fun directions_8 =>
            (((M.ix directions_8 x2.1) >>= fun t9 => (M.ok (!decide (t9 = x2.2)))) >>= fun b12 => if b12 then
            M.setIx directions_8 (M.ok x4.1) (M.ok ((1 : Int) - x4.2)) >>= fun directions_10 =>
              M.ok directions_10
          else
            M.ok directions_8) >>= (fun s11 : (List Int) =>
            (M.ok true) >>= fun r => .ok (.rt (r, s11)))
        else
          M.ok (.nx s3)) s1 l16 >>= fun c15 => Ct.go c15 (fun r => M.ok (.rt r)) fun (s14 : (List Int)) =>
      M.ok (.nx s14)) directions l19 >>= fun c18 => Ct.go c18 M.ok fun (s17 : (List Int)) =>
  (M.ok false) >>= fun r => M.ok (r, s17)
/-- _law_forced -/
noncomputable def l_forced_m (table_here : (DK (Int × Int) (List (Int × Int)))) (many : Int) : M (List Int) :=
  ((M.range many) >>= M.comp (fun _ => (M.ok true)) (fun x1 => (M.ok (-(1 : Int))))) >>= fun directions_2 =>
  (M.range many) >>= fun l16 =>
  M.fold (fun (s3 : (List Int)) x4 =>
    ((M.ix s3 x4) >>= fun t5 => (M.ok (decide (t5 < (0 : Int))))) >>= fun b14 => if b14 then
      M.setIx s3 (M.ok x4) (M.ok (0 : Int)) >>= fun directions_6 =>
        (M.range many) >>= fun l13 =>
        M.foldC (fun (s7 : (List Int)) x8 =>
          (M.calm ((M.ok table_here) >>= fun a9 => (l_carried_m a9 s7))) >>= fun p10 => if (!p10.1) then
            M.ok (.bk p10.2)
          else
            M.ok (.nx p10.2)) directions_6 l13 >>= fun c12 => Ct.go c12 (fun (r : Empty) => nomatch r) fun (s11 : (List Int)) =>
        M.ok s11
    else
      M.ok s3) directions_2 l16 >>= fun (s15 : (List Int)) =>
  M.ok s15
/-- _law_lists -/
noncomputable def l_lists_m (draws_here : (List Int)) (at_ : Int) (many : Int) (forced_here : (List Int)) (label : (List Int)) : M (List (List Int)) :=
  (M.ok [([] : (List Int))]) >>= fun lists_here_1 =>
  (if (decide (many < (6 : Int))) then
  (M.range many) >>= fun l10 =>
    M.fold (fun (s2 : (List (List Int))) x3 =>
      ((M.comp (fun _ => (M.ok true)) (fun x4 => (M.cat x4 [(0 : Int)])) s2) >>= fun t6 => ((M.comp (fun _ => (M.ok true)) (fun x5 => (M.cat x5 [(1 : Int)])) s2) >>= fun t7 => (M.cat t6 t7))) >>= fun lists_here_8 =>
        M.ok lists_here_8) lists_here_1 l10 >>= fun (s9 : (List (List Int))) =>
    M.ok s9
else
  ((l_pick_m draws_here at_ many) >>= fun t11 => (M.ix label t11)) >>= fun group_12 =>
    (l_pick_m draws_here (at_ + (1 : Int)) many) >>= fun one_13 =>
    (((M.comp (fun _ => (M.ok true)) (fun x14 => (M.ok ((1 : Int) - x14))) forced_here) >>= fun t20 => ((((M.range many) >>= M.comp (fun _ => (M.ok true)) (fun x15 => (M.ok (0 : Int)))) >>= fun t18 => ((((M.range many) >>= M.comp (fun _ => (M.ok true)) (fun x16 => (M.ok (1 : Int)))) >>= fun t17 => (M.ok (t17 :: []))) >>= fun t19 => M.ok (t18 :: t19))) >>= fun t21 => M.ok (t20 :: t21))) >>= fun t22 => M.ok (forced_here :: t22)) >>= fun lists_here_23 =>
    M.push lists_here_23 ((M.range many) >>= M.comp (fun _ => (M.ok true)) (fun x24 => ((((M.ix forced_here x24) >>= fun t25 => (M.ok (decide (t25 = (1 : Int))))) >>= fun t27 => (((M.ix label x24) >>= fun t26 => (M.ok (decide (t26 = group_12)))) >>= fun t28 => (M.ok (!decide (t27 = t28))))) >>= fun t29 => (M.ok (if t29 then (1 : Int) else 0))))) >>= fun lists_here_30 =>
    M.push lists_here_30 ((M.range many) >>= M.comp (fun _ => (M.ok true)) (fun x31 => ((((M.ix forced_here x31) >>= fun t32 => (M.ok (decide (t32 = (1 : Int))))) >>= fun t33 => (M.ok (!decide (t33 = (decide (x31 = one_13)))))) >>= fun t34 => (M.ok (if t34 then (1 : Int) else 0))))) >>= fun lists_here_35 =>
    M.push lists_here_35 ((M.range many) >>= M.comp (fun _ => (M.ok true)) (fun x36 => (l_pick_m draws_here ((at_ + (2 : Int)) + x36) (2 : Int)))) >>= fun lists_here_37 =>
    M.ok lists_here_37) >>= (fun s38 : (List (List Int)) =>
  (M.range (3 : Int)) >>= fun l57 =>
  M.fold (fun (s39 : (List (List Int))) x40 =>
    (M.ok forced_here) >>= fun spoilt_41 =>
      (if (decide ((0 : Int) < many)) then
      (l_pick_m draws_here ((at_ + (20 : Int)) + x40) many) >>= fun one_42 =>
        M.setIx spoilt_41 (M.ok one_42) (M.ix [(2 : Int), (-(1 : Int)), (100000000000000000000 : Int)] x40) >>= fun spoilt_43 =>
        M.ok spoilt_43
    else
      M.ok spoilt_41) >>= (fun s44 : (List Int) =>
      M.push s39 (M.ok s44) >>= fun lists_here_45 =>
      M.ok lists_here_45)) s38 l57 >>= fun (s46 : (List (List Int))) =>
  ((((M.cat forced_here [(0 : Int)]) >>= fun t53 => (((M.cat forced_here [(1 : Int)]) >>= fun t52 => (M.ok (t52 :: []))) >>= fun t54 => M.ok (t53 :: t54))) >>= fun t55 => M.ok ((cutL forced_here none (some (-(1 : Int)))) :: t55)) >>= fun t56 => (M.cat s46 t56)))
/-- _law_keeps -/
noncomputable def l_keeps_m (table_here : (DK (Int × Int) (List (Int × Int)))) (many : Int) (directions : (List Int)) : M Bool :=
  if (!decide ((directions.length : Int) = many)) then
  (M.ok false)
else
  (M.ok directions) >>= fun l20 =>
    M.foldC (fun (_ : Unit) x2 =>
      if ((!decide (x2 = (0 : Int))) && (!decide (x2 = (1 : Int)))) then
        (M.ok false) >>= fun r => .ok (.rt r)
      else
        M.ok (.nx ())) () l20 >>= fun c19 => Ct.go c19 M.ok fun (_ : Unit) =>
    (M.ok (table_here.kv.map Prod.fst)) >>= fun l18 =>
    M.foldC (fun (_ : Unit) x5 =>
      (M.ofO (lkD table_here.kv x5)) >>= fun l15 =>
        M.foldC (fun (_ : Unit) x7 =>
          (((M.ix directions x5.1) >>= fun t8 => (M.ok (decide (t8 = x5.2)))) >>= fun t10 => (((M.ix directions x7.1) >>= fun t9 => (M.ok (decide (t9 = x7.2)))) >>= fun t11 => (M.ok (!decide (t10 = t11))))) >>= fun b12 => if b12 then
            (M.ok false) >>= fun r => .ok (.rt r)
          else
            M.ok (.nx ())) () l15 >>= fun c14 => Ct.go c14 (fun r => M.ok (.rt r)) fun (_ : Unit) =>
        M.ok (.nx ())) () l18 >>= fun c17 => Ct.go c17 M.ok fun (_ : Unit) =>
    (M.ok true)
/-- every_step -/
noncomputable def p_every_step_m (web : WebM) : M (List (Int × Int)) :=
  ((M.range (web.b.l.length : Int)) >>= M.lc2 (fun _ => (M.ok true)) (fun x1 => (M.ok [(0 : Int), (1 : Int)])) (fun x1 x2 => (M.ok true)) (fun x1 x2 => (M.ok (x1, x2))))
/-- is_facing -/
noncomputable def p_is_facing_m (web : WebM) (directions : (List Int)) : M Bool :=
  (if (!decide ((directions.length : Int) = (web.b.l.length : Int))) then .ok true else (((M.comp (fun _ => (M.ok true)) (fun x1 => (M.ok (memB x1 [(0 : Int), (1 : Int)]))) directions) >>= fun t2 => (M.ok (t2.all id))) >>= fun t3 => (M.ok (!t3)))) >>= fun b19 => if b19 then
  (M.ok false)
else
  (p_every_step_m web) >>= fun l18 =>
    M.foldC (fun (_ : Unit) x5 =>
      ((M.ix directions x5.1) >>= fun t6 => (M.ok (decide (x5.2 = t6)))) >>= fun along_7 =>
        (p_followers_m web x5) >>= fun l15 =>
        M.foldC (fun (_ : Unit) x9 =>
          (((M.ix directions x9.1) >>= fun t10 => (M.ok (decide (x9.2 = t10)))) >>= fun t11 => (M.ok (!decide (t11 = along_7)))) >>= fun b12 => if b12 then
            (M.ok false) >>= fun r => .ok (.rt r)
          else
            M.ok (.nx ())) () l15 >>= fun c14 => Ct.go c14 (fun r => M.ok (.rt r)) fun (_ : Unit) =>
        M.ok (.nx ())) () l18 >>= fun c17 => Ct.go c17 M.ok fun (_ : Unit) =>
    (M.ok true)
/-- is_facing@2 -/
noncomputable def p_is_facing_v2_m (web : WebM) (directions : (Tup Int)) : M Bool :=
  (if (!decide ((directions.l.length : Int) = (web.b.l.length : Int))) then .ok true else (((M.comp (fun _ => (M.ok true)) (fun x1 => (M.ok (memB x1 [(0 : Int), (1 : Int)]))) directions.l) >>= fun t2 => (M.ok (t2.all id))) >>= fun t3 => (M.ok (!t3)))) >>= fun b19 => if b19 then
  (M.ok false)
else
  (p_every_step_m web) >>= fun l18 =>
    M.foldC (fun (_ : Unit) x5 =>
      ((M.ix directions.l x5.1) >>= fun t6 => (M.ok (decide (x5.2 = t6)))) >>= fun along_7 =>
        (p_followers_m web x5) >>= fun l15 =>
        M.foldC (fun (_ : Unit) x9 =>
          (((M.ix directions.l x9.1) >>= fun t10 => (M.ok (decide (x9.2 = t10)))) >>= fun t11 => (M.ok (!decide (t11 = along_7)))) >>= fun b12 => if b12 then
            (M.ok false) >>= fun r => .ok (.rt r)
          else
            M.ok (.nx ())) () l15 >>= fun c14 => Ct.go c14 (fun r => M.ok (.rt r)) fun (_ : Unit) =>
        M.ok (.nx ())) () l18 >>= fun c17 => Ct.go c17 M.ok fun (_ : Unit) =>
    (M.ok true)
/-- steps_alike -/
noncomputable def p_steps_alike_m (web : WebM) (step : (Int × Int)) : M (List (Int × Int)) :=
  ((p_followers_m web step) >>= fun t3 => ((((m_Web_back_m step) >>= fun t1 => (p_followers_m web t1)) >>= M.comp (fun _ => (M.ok true)) (fun x2 => (m_Web_back_m x2))) >>= fun t4 => (M.cat t3 t4)))
/-- facing -/
noncomputable def p_facing_m (web : WebM) : M (Opt (List Int)) :=
  (M.ok (⟨[]⟩ : (DI Int))) >>= fun directions_1 =>
  (M.range (web.b.l.length : Int)) >>= fun l19 =>
  M.fold (fun (s2 : (DI Int)) x3 =>
    if (!(s2.kv.lookup x3).isSome) then
      M.dput s2 (M.ok x3) (M.ok (0 : Int)) >>= fun directions_4 =>
        (M.ok [(x3, (0 : Int))]) >>= fun waiting_5 =>
        M.loop (fun (s6 : ((DI Int) × (List (Int × Int)))) => (M.ok (!s6.2.isEmpty))) (fun (s6 : ((DI Int) × (List (Int × Int)))) =>
          (M.popL s6.2) >>= fun p7 =>
            (p_steps_alike_m web p7.2) >>= fun l13 =>
            M.fold (fun (s8 : ((DI Int) × (List (Int × Int)))) x9 =>
              if (!(s8.1.kv.lookup x9.1).isSome) then
                M.dput s8.1 (M.ok x9.1) (M.ok x9.2) >>= fun directions_10 =>
                  M.push s8.2 (M.ok (x9.1, x9.2)) >>= fun waiting_11 =>
                  M.ok (directions_10, waiting_11)
              else
                M.ok (s8.1, s8.2)) (s6.1, p7.1) l13 >>= fun (s12 : ((DI Int) × (List (Int × Int)))) =>
            M.ok (s12.1, s12.2)) (directions_4, waiting_5) >>= fun (s14 : ((DI Int) × (List (Int × Int)))) =>
        M.ok s14.1
    else
      M.ok s2) directions_1 l19 >>= fun (s15 : (DI Int)) =>
  ((M.range (web.b.l.length : Int)) >>= M.comp (fun _ => (M.ok true)) (fun x16 => (M.ofO (s15.kv.lookup x16)))) >>= fun found_17 =>
  (p_is_facing_m web found_17) >>= fun b18 => if b18 then
  (M.ok (.some found_17))
else
  (M.ok .none)
/-- tie_groups -/
noncomputable def p_tie_groups_m (web : WebM) : M (List (List Int)) :=
  ((p_every_step_m web) >>= M.lc2 (fun _ => (M.ok true)) (fun x1 => (p_followers_m web x1)) (fun x1 x2 => (M.ok true)) (fun x1 x2 => (M.ok (x1.1, x2.1)))) >>= fun joined_3 =>
  ((M.rangeL 0 (web.b.l.length : Int)) >>= fun t4 => (p_grouped_m t4 joined_3))
/-- count_facings -/
noncomputable def p_count_facings_m (web : WebM) : M Int :=
  ((p_facing_m web) >>= fun t1 => (M.ok (t1.isNone))) >>= fun b8 => if b8 then
  (M.ok (0 : Int))
else
  (M.ok (1 : Int)) >>= fun count_2 =>
    (p_tie_groups_m web) >>= fun l7 =>
    M.fold (fun (s3 : Int) x4 =>
      (M.ok ((2 : Int) * s3)) >>= fun count_5 =>
        M.ok count_5) count_2 l7 >>= fun (s6 : Int) =>
    (M.ok s6)
/-- _law_right_groups -/
noncomputable def l_right_groups_m (web_here : WebM) (label : (List Int)) (many : Int) : M Bool :=
  (M.ok ([] : (List (List Int)))) >>= fun due_1 =>
  (M.range many) >>= fun l18 =>
  M.fold (fun (s2 : (List (List Int))) x3 =>
    ((M.ix label x3) >>= fun t4 => (M.ok (decide (t4 = x3)))) >>= fun b8 => if b8 then
      M.push s2 ((M.range many) >>= M.comp (fun x5 => ((M.ix label x5) >>= fun t6 => (M.ok (decide (t6 = x3))))) (fun x5 => (M.ok x5))) >>= fun due_7 =>
        M.ok due_7
    else
      M.ok s2) due_1 l18 >>= fun (s9 : (List (List Int))) =>
  (p_tie_groups_m web_here) >>= fun told_10 =>
  ((M.calm (l_same_m 9 (UD.toU told_10) (UD.toU s9))) >>= fun t11 => (M.ok (!t11))) >>= fun b17 => if b17 then
  (M.ok false)
else
  M.appAll told_10 (-1 : Int) >>= fun _law_told12 =>
    M.push _law_told12 (M.ok ([] : (List Int))) >>= fun told_13 =>
    (((p_tie_groups_m web_here) >>= fun t15 => (M.ok (UD.toU t15))) >>= fun t16 => (l_same_m 9 t16 (UD.toU s9)))
/-- _law_right_web -/
noncomputable def l_right_web_m (web_here : WebM) (ties : (List (T4 Int Int Int Int))) (draws_here : (List Int)) (at_ : Int) : M Bool :=
  (M.ok (ties.length : Int)) >>= fun many_1 =>
  (l_table_m ties) >>= fun table_here_2 =>
  (l_labels_m table_here_2 many_1) >>= fun label_3 =>
  (l_forced_m table_here_2 many_1) >>= fun forced_here_4 =>
  (l_lists_m draws_here at_ many_1 forced_here_4 label_3) >>= fun lists_here_5 =>
  (M.ok (0 : Int)) >>= fun count_6 =>
  (M.ok lists_here_5) >>= fun l44 =>
  M.foldC (fun (s7 : Int) x8 =>
    (l_keeps_m table_here_2 many_1 x8) >>= fun due_9 =>
      (M.ok x8) >>= fun passed_10 =>
      (((((p_is_facing_m web_here passed_10) >>= fun t12 => (M.ok (UD.toU t12))) >>= fun t13 => (l_same_m 9 t13 (UD.toU due_9))) >>= fun t14 => (M.ok (!t14))) >>= fun b15 => (if b15 then .ok true else (M.ok (!decide (passed_10 = x8))))) >>= fun b17 => if b17 then
      (M.ok false) >>= fun r => .ok (.rt r)
    else
      if due_9 then
        (M.ok (s7 + (1 : Int))) >>= fun count_16 =>
          M.ok (.nx count_16)
      else
        M.ok (.nx s7)) count_6 l44 >>= fun c43 => Ct.go c43 M.ok fun (s18 : Int) =>
  ((((p_is_facing_v2_m web_here ⟨forced_here_4⟩) >>= fun t21 => (M.ok (UD.toU (t21 : Bool)))) >>= fun t23 => (((l_keeps_m table_here_2 many_1 forced_here_4) >>= fun t22 => (M.ok (UD.toU t22))) >>= fun t24 => (l_same_m 9 t23 t24))) >>= fun t25 => (M.ok (!t25))) >>= fun b42 => if b42 then
  (M.ok false)
else
  (if (decide ((5 : Int) < many_1)) then
    ((l_keeps_m table_here_2 many_1 forced_here_4) >>= fun t26 => (M.ok (if t26 then (1 : Int) else 0))) >>= fun count_27 =>
      (M.range many_1) >>= fun l34 =>
      M.fold (fun (s28 : Int) x29 =>
        ((M.ix label_3 x29) >>= fun t30 => (M.ok (decide (t30 = x29)))) >>= fun b32 => if b32 then
          (M.ok ((2 : Int) * s28)) >>= fun count_31 =>
            M.ok count_31
        else
          M.ok s28) count_27 l34 >>= fun (s33 : Int) =>
      M.ok s33
  else
    M.ok s18) >>= (fun s35 : Int =>
    (if (decide (many_1 = (0 : Int))) then
    (M.ok (1 : Int)) >>= fun count_36 =>
      M.ok count_36
  else
    M.ok s35) >>= (fun s37 : Int =>
    ((((p_count_facings_m web_here) >>= fun t39 => (M.ok (UD.toU t39))) >>= fun t40 => (l_same_m 9 t40 (UD.toU s37))) >>= fun b41 => (if b41 then (l_right_groups_m web_here label_3 many_1) else .ok false))))
/-- check_end@2 -/
noncomputable def p_check_end_v2_m (sides : (Tup Int)) (place : Int) (side : Int) : M Unit :=
  if ((decide (place < (0 : Int))) || (decide ((sides.l.length : Int) ≤ place))) then
  M.raise1 .UnknownPlace "place" (M.ok place)
else
  (if (decide (side < (0 : Int))) then .ok true else ((M.ix sides.l place) >>= fun t1 => (M.ok (decide (t1 ≤ side))))) >>= fun b2 => if b2 then
    M.raise2 .UnknownSide "place" "side" (M.ok place) (M.ok side)
  else
    M.ok ()
/-- Web.__init__@2 -/
noncomputable def m_WebX_initX_v2_m (sides : (Tup Int)) (ties : (Tup (T4 Int Int Int Int))) : M WebM :=
  if (decide ((200 : Int) < (sides.l.length : Int))) then
  M.raise1 .TooLarge "limit" (M.ok (200 : Int))
else
  if (decide ((300 : Int) < (ties.l.length : Int))) then
    M.raise1 .TooLarge "limit" (M.ok (300 : Int))
  else
    (M.ok (M.enumL sides.l)) >>= fun l12 =>
      M.fold (fun (_ : Unit) x2 =>
        if ((decide (x2.2 < (1 : Int))) || (decide ((4 : Int) < x2.2))) then
          M.raise1 .BadSides "place" (M.ok x2.1)
        else
          M.ok ()) () l12 >>= fun (_ : Unit) =>
      (M.ok ties.l) >>= fun l11 =>
      M.fold (fun (_ : Unit) x5 =>
        (p_check_end_v2_m sides x5.a x5.b) >>= fun _ =>
          (p_check_end_v2_m sides x5.c x5.d) >>= fun _ =>
          M.ok ()) () l11 >>= fun (_ : Unit) =>
      (M.ok (⟨sides.l⟩ : (Tup Int))) >>= fun f_7 =>
      ((M.comp (fun _ => (M.ok true)) (fun x8 => (M.ok ⟨x8.a, x8.b, x8.c, x8.d⟩)) ties.l) >>= fun t9 => (M.ok ⟨t9⟩)) >>= fun f_10 =>
      M.ok ⟨f_7, f_10⟩
/-- Web.empty -/
noncomputable def m_Web_empty_m (cls : Unit) : M WebM :=
  (m_WebX_initX_v2_m (⟨[]⟩ : Tup Int) (⟨[]⟩ : Tup (T4 Int Int Int Int)))
/-- law -/
noncomputable def law_m (script : (Sq Int)) : M Bool :=
  ((l_cell_m script (0 : Int)) >>= fun t1 => (l_draws_m t1 (60 : Int))) >>= fun draws_here_2 =>
  ((l_cell_m script (1 : Int)) >>= fun t3 => (l_draws_m t3 (60 : Int))) >>= fun extra_4 =>
  (l_pick_m extra_4 (0 : Int) (8 : Int)) >>= fun shape_5 =>
  (l_web_m draws_here_2 (5 : Int) (5 : Int)) >>= fun t6 =>
  (if (decide (shape_5 = (3 : Int))) then
  (l_faced_m draws_here_2 (5 : Int) (5 : Int)) >>= fun t7 =>
    M.ok (t7.a, t7.b)
else
  M.ok (t6.1, t6.2)) >>= (fun s8 : ((List Int) × (List (T4 Int Int Int Int))) =>
  (if (decide (shape_5 = (4 : Int))) then
  (l_web_m draws_here_2 (6 : Int) (12 : Int)) >>= fun t9 =>
    M.ok (t9.1, t9.2)
else
  M.ok (s8.1, s8.2)) >>= (fun s10 : ((List Int) × (List (T4 Int Int Int Int))) =>
  (if (decide ((4 : Int) < shape_5)) then
  (l_faced_m draws_here_2 (6 : Int) (12 : Int)) >>= fun t11 =>
    M.ok (t11.a, t11.b)
else
  M.ok (s10.1, s10.2)) >>= (fun s12 : ((List Int) × (List (T4 Int Int Int Int))) =>
  (if (decide (shape_5 = (7 : Int))) then
  (l_pick_m extra_4 (1 : Int) (s12.1.length : Int)) >>= fun one_13 =>
    (l_pick_m extra_4 (2 : Int) (s12.1.length : Int)) >>= fun other_14 =>
    (((M.ix s12.1 one_13) >>= fun t15 => (l_pick_m extra_4 (3 : Int) t15)) >>= fun t17 => (((M.ix s12.1 other_14) >>= fun t16 => (l_pick_m extra_4 (4 : Int) t16)) >>= fun t18 => (M.ok ⟨one_13, t17, other_14, t18⟩))) >>= fun tie_19 =>
    M.insert s12.2 (l_pick_m extra_4 (5 : Int) ((s12.2.length : Int) + (1 : Int))) (M.ok tie_19) >>= fun ties_20 =>
    M.ok ties_20
else
  M.ok s12.2) >>= (fun s21 : (List (T4 Int Int Int Int)) =>
  (m_WebX_initX_m s12.1 s21) >>= fun web_here_22 =>
  (M.ok (cutL s21 none (some (-(1 : Int))))) >>= fun fewer_23 =>
  (((l_right_web_m web_here_22 s21 extra_4 (6 : Int)) >>= fun t24 => (M.ok (!t24))) >>= fun b27 => (if b27 then .ok true else (((m_WebX_initX_m s12.1 fewer_23) >>= fun t25 => (l_right_web_m t25 fewer_23 extra_4 (30 : Int))) >>= fun t26 => (M.ok (!t26))))) >>= fun b33 => if b33 then
  (M.ok false)
else
  (((l_right_web_m web_here_22 s21 extra_4 (6 : Int)) >>= fun t28 => (M.ok (!t28))) >>= fun b31 => (if b31 then .ok true else (((m_Web_empty_m ()) >>= fun t29 => (l_right_web_m t29 ([] : (List (T4 Int Int Int Int))) extra_4 (6 : Int))) >>= fun t30 => (M.ok (!t30))))) >>= fun b32 => if b32 then
    (M.ok false)
  else
    (M.ok ((decide (web_here_22.a.l = s12.1)) && (decide (web_here_22.b.l = s21))))))))
end K13

namespace K13
open PySem L2 G PM QS
/-! dicts keyed by tuples -/
section
variable {κ α : Type} [DecidableEq κ]
theorem lkD_none {k : κ} : ∀ {kv : List (κ × α)}, (∀ p ∈ kv, p.1 ≠ k) → lkD kv k = none
  | [], _ => rfl
  | p :: r, h => by
    unfold lkD
    rw [if_neg (h p List.mem_cons_self)]
    exact lkD_none fun q hq => h q (List.mem_cons_of_mem _ hq)
theorem lkD_map {f : κ → α} {k : κ} : ∀ {ks : List κ}, k ∈ ks → lkD (ks.map fun s => (s, f s)) k = some (f k)
  | s :: r, h => by
    rw [List.map_cons]
    unfold lkD
    by_cases e : s = k
    · subst e; rw [if_pos rfl]
    · rw [if_neg e]
      rcases List.mem_cons.mp h with z | z
      · exact absurd z.symm e
      · exact lkD_map z
theorem dputK_new {x : DK κ α} {k : κ} {v : α} (h : x.kv.length ≤ 100000) (hn : lkD x.kv k = none) : M.dputK x (.ok k) (.ok v) = .ok ⟨x.kv ++ [(k, v)]⟩ := by
  unfold M.dputK
  simp only [M.ok_bind]
  rw [M.asrt_pos (small1k h)]
  unfold putD
  rw [hn, if_neg (by simp)]
end
section
variable {ties : List T4I}
def TB (ties : List T4I) : DK (Int × Int) (List (Int × Int)) := ⟨(allSteps ties.length).map fun s => (s, fols ties s)⟩
theorem lk_TB {s : Int × Int} (h : IsStep ties s) : lkD (TB ties).kv s = some (fols ties s) := lkD_map (mem_allSteps.mpr h)
theorem keys_TB : (TB ties).kv.map Prod.fst = allSteps ties.length := by
  unfold TB
  rw [List.map_map]
  show (allSteps ties.length).map (fun s => s) = _
  rw [List.map_id']
theorem fold_two {σ : Type} {f : σ → Int → M σ} {s : σ} : (M.fold f s [0, 1] >>= fun s27 => M.ok s27) = (f s 0 >>= fun s' => f s' 1) := by
  simp only [M.fold]
  cases f s 0 with
  | ok x => simp only [M.ok_bind]; cases f x 1 <;> rfl
  | bad => rfl
  | exc x => rfl
theorem range2 : M.range (2 : Int) = .ok [0, 1] := by rw [M.range_ok (by decide) (by decide)]; rfl
theorem at_tl {i d : Int} (h0 : 0 ≤ i) (h1 : i < ties.length) (hd : d = 0 ∨ d = 1) : ((M.ix ties i) >>= fun t => (M.ofO (T4.at4 t ((2 : Int) * d)))) = .ok (tl ties (i, d)).1 ∧ ((M.ix ties i) >>= fun t => (M.ofO (T4.at4 t (((2 : Int) * d) + (1 : Int))))) = .ok (tl ties (i, d)).2 := by
  rw [M.ix_getD ⟨0, 0, 0, 0⟩ h0 h1]
  unfold tl
  rcases hd with rfl | rfl <;> exact ⟨rfl, rfl⟩
theorem at_hd {i d : Int} (h0 : 0 ≤ i) (h1 : i < ties.length) (hd : d = 0 ∨ d = 1) : ((M.ix ties i) >>= fun t => (M.ofO (T4.at4 t ((2 : Int) - ((2 : Int) * d))))) = .ok (tl ties (bk (i, d))).1 ∧ ((M.ix ties i) >>= fun t => (M.ofO (T4.at4 t ((3 : Int) - ((2 : Int) * d))))) = .ok (tl ties (bk (i, d))).2 := by
  rw [M.ix_getD ⟨0, 0, 0, 0⟩ h0 h1]
  unfold tl bk
  rcases hd with rfl | rfl <;> exact ⟨rfl, rfl⟩
theorem found_eq (hn : ties.length ≤ 10000) {s : Int × Int} (h : IsStep ties s) : ((M.ok ([] : (List (Int × Int)))) >>= fun found_10 =>
          (M.ok (rngL 0 ties.length)) >>= fun l26 =>
          M.fold (fun (s11 : (List (Int × Int))) x12 =>
            (M.ok [(0 : Int), 1]) >>= fun l23 =>
              M.fold (fun (s13 : (List (Int × Int))) x14 =>
                ((((M.ix ties x12) >>= fun t15 => (M.ofO (T4.at4 t15 ((2 : Int) * x14)))) >>= fun t16 => (M.ok (decide (t16 = (tl ties (bk s)).1)))) >>= fun b19 => (if b19 then (((M.ix ties x12) >>= fun t17 => (M.ofO (T4.at4 t17 (((2 : Int) * x14) + (1 : Int))))) >>= fun t18 => (M.ok (!decide (t18 = (tl ties (bk s)).2)))) else .ok false)) >>= fun b21 => if b21 then
                  M.push s13 (M.ok (x12, x14)) >>= fun found_20 =>
                    M.ok found_20
                else
                  M.ok s13) s11 l23 >>= fun (s22 : (List (Int × Int))) =>
              M.ok s22) found_10 l26) = .ok (fols ties s) := by
  rw [M.ok_bind, M.ok_bind]
  rw [M.fold_eq [] (fun i => (allSteps i).filter fun f => decide ((tl ties f).1 = (tl ties (bk s)).1) && !decide ((tl ties f).2 = (tl ties (bk s)).2)) rfl fun i x hx => ?_]
  · rw [rngL_len]; rfl
  obtain ⟨hi, rfl⟩ := rngL_get hx
  rw [Int.zero_add]
  have hl : ((allSteps i).filter fun f => decide ((tl ties f).1 = (tl ties (bk s)).1) && !decide ((tl ties f).2 = (tl ties (bk s)).2)).length ≤ 2 * i := by rw [← allSteps_len i]; exact List.length_filter_le _ _
  generalize hp : (fun f : Int × Int => decide ((tl ties f).1 = (tl ties (bk s)).1) && !decide ((tl ties f).2 = (tl ties (bk s)).2)) = p at hl
  simp only [M.ok_bind, M.fold]
  have a0 := at_tl (ties := ties) (i := (i : Int)) (d := 0) (by omega) (by omega) (.inl rfl)
  have a1 := at_tl (ties := ties) (i := (i : Int)) (d := 1) (by omega) (by omega) (.inr rfl)
  rw [a0.1, a0.2, a1.1, a1.2]
  simp only [M.ok_bind]
  have q : ∀ f : Int × Int, (if decide ((tl ties f).1 = (tl ties (bk s)).1) = true then (M.ok (!decide ((tl ties f).2 = (tl ties (bk s)).2)) : M Bool) else .ok false) = .ok (p f) := fun f => by
    rw [← hp]
    by_cases e : (tl ties f).1 = (tl ties (bk s)).1 <;> simp [e]
  rw [q, q]
  simp only [M.ok_bind]
  show _ = M.ok ((allSteps i ++ [((i : Int), 0), ((i : Int), 1)]).filter p)
  rw [List.filter_append]
  simp only [List.filter_cons, List.filter_nil]
  cases h0 : p ((i : Int), 0) <;> cases h1 : p ((i : Int), 1) <;> simp only [Bool.false_eq_true, if_true, if_false, M.ok_bind, List.append_nil]
  · rw [M.push_small (by omega)]; rfl
  · rw [M.push_small (by omega)]; rfl
  · rw [M.push_small (by omega)]
    simp only [M.ok_bind]
    rw [M.push_small (by simp; omega)]
    simp
theorem table_eq (hn : ties.length ≤ 1000) : l_table_m ties = .ok (TB ties) := by
  unfold l_table_m
  rw [M.ok_bind, M.rangeN (by omega), M.ok_bind]
  rw [M.fold_eq (⟨[]⟩ : DK (Int × Int) (List (Int × Int))) (fun i => ⟨(allSteps i).map fun s => (s, fols ties s)⟩) rfl fun i x hx => ?_]
  · rw [rngL_len]; rfl
  obtain ⟨hi, rfl⟩ := rngL_get hx
  rw [Int.zero_add, range2, M.ok_bind]
  have hl : (allSteps i).length = 2 * i := allSteps_len i
  have one : ∀ (d : Int) (hd : d = 0 ∨ d = 1) (kv : List ((Int × Int) × List (Int × Int))), kv.length ≤ 100000 → (∀ p ∈ kv, p.1 ≠ ((i : Int), d)) →
      (((M.ix ties (i : Int)) >>= fun t6 => (M.ofO (T4.at4 t6 ((2 : Int) - ((2 : Int) * d))))) >>= fun place_7 =>
          ((M.ix ties (i : Int)) >>= fun t8 => (M.ofO (T4.at4 t8 ((3 : Int) - ((2 : Int) * d))))) >>= fun side_9 =>
          (M.ok ([] : (List (Int × Int)))) >>= fun found_10 =>
          (M.ok (rngL 0 ties.length)) >>= fun l26 =>
          M.fold (fun (s11 : (List (Int × Int))) x12 =>
            (M.ok [(0 : Int), 1]) >>= fun l23 =>
              M.fold (fun (s13 : (List (Int × Int))) x14 =>
                ((((M.ix ties x12) >>= fun t15 => (M.ofO (T4.at4 t15 ((2 : Int) * x14)))) >>= fun t16 => (M.ok (decide (t16 = place_7)))) >>= fun b19 => (if b19 then (((M.ix ties x12) >>= fun t17 => (M.ofO (T4.at4 t17 (((2 : Int) * x14) + (1 : Int))))) >>= fun t18 => (M.ok (!decide (t18 = side_9)))) else .ok false)) >>= fun b21 => if b21 then
                  M.push s13 (M.ok (x12, x14)) >>= fun found_20 =>
                    M.ok found_20
                else
                  M.ok s13) s11 l23 >>= fun (s22 : (List (Int × Int))) =>
              M.ok s22) found_10 l26 >>= fun (s24 : (List (Int × Int))) =>
          M.dputK (⟨kv⟩ : DK (Int × Int) (List (Int × Int))) (M.ok ((i : Int), d)) (M.ok s24) >>= fun table_here_25 =>
          M.ok table_here_25) = .ok ⟨kv ++ [(((i : Int), d), fols ties ((i : Int), d))]⟩ := fun d hd kv hk hne => by
    have hs : IsStep ties ((i : Int), d) := ⟨by simp, by simpa using hi, hd⟩
    have a := at_hd (ties := ties) (i := (i : Int)) (d := d) (by omega) (by omega) hd
    have f := found_eq (by omega) hs
    rw [a.1, M.ok_bind, a.2, M.ok_bind]
    rw [M.ok_bind, M.ok_bind] at f ⊢
    rw [f, M.ok_bind, dputK_new hk (lkD_none hne), M.ok_bind]
  rw [fold_two]
  rw [one 0 (.inl rfl) _ (by rw [List.length_map]; omega) fun p hp e => ?_, M.ok_bind, one 1 (.inr rfl) _ (by simp; omega) fun p hp e => ?_]
  · show _ = M.ok (⟨(allSteps i ++ [((i : Int), 0), ((i : Int), 1)]).map fun s => (s, fols ties s)⟩ : DK (Int × Int) (List (Int × Int)))
    simp
  · rcases List.mem_append.mp hp with hp | hp
    · obtain ⟨s, hs, rfl⟩ := List.mem_map.mp hp
      have := (mem_allSteps.mp hs).2.1
      have z : s.1 = (i : Int) := congrArg Prod.fst e
      omega
    · simp at hp
      subst hp
      simp at e
  · obtain ⟨s, hs, rfl⟩ := List.mem_map.mp hp
    have := (mem_allSteps.mp hs).2.1
    have z : s.1 = (i : Int) := congrArg Prod.fst e
    omega
/-! nested walks -/
theorem fold_mapL {σ α β : Type} {f : σ → β → M σ} {h : α → β} : ∀ {xs : List α} {s : σ}, M.fold f s (xs.map h) = M.fold (fun s x => f s (h x)) s xs
  | [], _ => rfl
  | x :: xs, s => by
    rw [List.map_cons]
    simp only [M.fold]
    cases f s (h x) with
    | ok y => simp only [M.ok_bind]; exact fold_mapL
    | bad => rfl
    | exc x => rfl
theorem fold_nest {σ α β : Type} {h : α → M (List β)} {g : α → List β} {f : σ → α → β → M σ} : ∀ {xs : List α} {s : σ}, (∀ x ∈ xs, h x = .ok (g x)) →
    M.fold (fun s x => h x >>= fun l => M.fold (fun s y => f s x y) s l >>= fun s' => M.ok s') s xs = M.fold (fun s (p : α × β) => f s p.1 p.2) s (xs.flatMap fun x => (g x).map fun y => (x, y))
  | [], _, _ => rfl
  | x :: xs, s, hh => by
    rw [List.flatMap_cons, M.fold_app, fold_mapL]
    simp only [M.fold]
    rw [hh x List.mem_cons_self]
    simp only [M.ok_bind]
    cases M.fold (fun s y => f s x y) s (g x) with
    | ok y => simp only [M.ok_bind]; exact fold_nest fun z hz => hh z (List.mem_cons_of_mem _ hz)
    | bad => rfl
    | exc x => rfl
theorem foldC_find' {σ α ρ : Type} {f : σ → α → M (Ct σ ρ)} {s : σ} (p : α → Bool) (g : α → ρ) : ∀ {xs : List α}, (∀ x ∈ xs, f s x = if p x then .ok (.rt (g x)) else .ok (.nx s)) → M.foldC f s xs = .ok (match xs.find? p with | some x => .rt (g x) | none => .nx s)
  | [], _ => rfl
  | x :: xs, h => by
    simp only [M.foldC]
    rw [h x List.mem_cons_self, List.find?_cons]
    cases hp : p x with
    | true => rfl
    | false => simp only [Bool.false_eq_true, if_false, M.ok_bind]; exact foldC_find' p g fun y hy => h y (List.mem_cons_of_mem _ hy)
/-! labels -/
theorem rangeL_ok {n : Int} (h0 : 0 ≤ n) (h1 : n ≤ 100000) : M.rangeL 0 n = .ok (rngL 0 n.toNat) := by
  unfold M.rangeL
  rw [Int.sub_zero]
  exact M.asrt_pos ⟨by omega, by omega, by omega, by omega, by omega⟩
theorem rangeL_n (n : Nat) (h : n ≤ 100000) : M.rangeL 0 (n : Int) = .ok (rngL 0 n) := (rangeL_ok (n := (n : Int)) (by omega) (by omega)).trans (by rw [Int.toNat_natCast])
def lkF (j : Nat) : List Int → List (Int × Int)
  | [] => []
  | x :: r => ((j : Int), x) :: lkF (j + 1) r
theorem lkF_lk : ∀ (L : List Int) (j : Nat) (k : Int), (lkF j L).lookup k = if (j : Int) ≤ k then L[(k - j).toNat]? else none
  | [], j, k => by simp [lkF]
  | x :: r, j, k => by
    rw [lkF, List.lookup_cons, lkF_lk r (j + 1) k]
    by_cases e : k = (j : Int)
    · subst e
      simp
    · have e' : (k == (j : Int)) = false := by simpa using e
      rw [e']
      by_cases h : (j : Int) ≤ k
      · rw [if_pos h, if_pos (by omega)]
        have : (k - (j : Int)).toNat = (k - ((j + 1 : Nat) : Int)).toNat + 1 := by omega
        rw [this, List.getElem?_cons_succ]
      · rw [if_neg h, if_neg (by omega)]
theorem lkF_at {L : List Int} {t : Int} (h0 : 0 ≤ t) (h1 : t < L.length) : (lkF 0 L).lookup t = some (gd L t) := by
  rw [lkF_lk, if_pos (by simpa using h0)]
  unfold gd
  rw [List.getD_eq_getElem?_getD]
  have : (t - ((0 : Nat) : Int)).toNat = t.toNat := by omega
  rw [this, List.getElem?_eq_getElem (by omega)]
  rfl
theorem lkF_set {L : List Int} {i y : Int} (h0 : 0 ≤ i) (h1 : i < L.length) (k : Int) : (lkF 0 (L.set i.toNat y)).lookup k = (putI (lkF 0 L) i y).lookup k := by
  rw [G.lookup_putI, lkF_lk, lkF_lk]
  by_cases e : k = i
  · subst e
    rw [if_pos (by simpa using h0), if_pos rfl]
    have : (k - ((0 : Nat) : Int)).toNat = k.toNat := by omega
    rw [this, List.getElem?_set_self (by omega)]
  · rw [if_neg e]
    by_cases h : ((0 : Nat) : Int) ≤ k
    · rw [if_pos h, if_pos h, List.getElem?_set_ne (by omega)]
    · rw [if_neg h, if_neg h]
theorem putI_congr {kv kv' : List (Int × Int)} (h : ∀ k, kv.lookup k = kv'.lookup k) (i y k : Int) : (putI kv i y).lookup k = (putI kv' i y).lookup k := by
  rw [G.lookup_putI, G.lookup_putI, h]
theorem labOk_congr {pts : List Int} {ts kv kv' : List (Int × Int)} (h : ∀ k, kv.lookup k = kv'.lookup k) (q : LabOk pts ts kv) : LabOk pts ts kv' := ⟨fun k => by rw [← h]; exact q.has k, fun x y e => q.le x y (by rw [h]; exact e)⟩
theorem cor_congr {pts : List Int} {ts kv kv' : List (Int × Int)} (h : ∀ k, kv.lookup k = kv'.lookup k) {x : Int} : Cor pts ts kv x ↔ Cor pts ts kv' x := by
  unfold Cor
  rw [h]
/-- one joined pair -/
theorem lab_one {L : List Int} (hl : L.length = ties.length) (ok : LabOk (PTS ties) (JJ ties) (lkF 0 L)) {p : (Int × Int) × (Int × Int)} (hp : p ∈ EE ties) :
    M.sat (((M.ix L p.1.1) >>= fun t8 => ((M.ix L p.2.1) >>= fun t9 => (M.ok (if t9 < t8 then t9 else t8)))) >>= fun low_10 =>
              M.setIx L (M.ok p.1.1) (M.ok low_10) >>= fun label_11 =>
              M.setIx label_11 (M.ok p.2.1) (M.ok low_10) >>= fun label_12 =>
              M.ok label_12) fun L' => L'.length = ties.length ∧ LabOk (PTS ties) (JJ ties) (lkF 0 L') ∧ (∀ x, Cor (PTS ties) (JJ ties) (lkF 0 L) x → Cor (PTS ties) (JJ ties) (lkF 0 L') x) ∧
        (Cor (PTS ties) (JJ ties) (lkF 0 L) p.1.1 → Cor (PTS ties) (JJ ties) (lkF 0 L') p.2.1) ∧ (Cor (PTS ties) (JJ ties) (lkF 0 L) p.2.1 → Cor (PTS ties) (JJ ties) (lkF 0 L') p.1.1) := by
  obtain ⟨s, a⟩ := p
  obtain ⟨h1, h2⟩ := EE_pts hp
  show M.sat (((M.ix L s.1) >>= fun t8 => ((M.ix L a.1) >>= fun t9 => (M.ok (if t9 < t8 then t9 else t8)))) >>= fun low_10 =>
              M.setIx L (M.ok s.1) (M.ok low_10) >>= fun label_11 =>
              M.setIx label_11 (M.ok a.1) (M.ok low_10) >>= fun label_12 =>
              M.ok label_12) fun L' => L'.length = ties.length ∧ LabOk (PTS ties) (JJ ties) (lkF 0 L') ∧ (∀ x, Cor (PTS ties) (JJ ties) (lkF 0 L) x → Cor (PTS ties) (JJ ties) (lkF 0 L') x) ∧
        (Cor (PTS ties) (JJ ties) (lkF 0 L) s.1 → Cor (PTS ties) (JJ ties) (lkF 0 L') a.1) ∧ (Cor (PTS ties) (JJ ties) (lkF 0 L) a.1 → Cor (PTS ties) (JJ ties) (lkF 0 L') s.1)
  obtain ⟨s0, s1⟩ := mem_PTS.mp h1
  obtain ⟨a0, a1⟩ := mem_PTS.mp h2
  rw [M.ix_getD 0 s0 (by omega), M.ok_bind, M.ix_getD 0 a0 (by omega), M.ok_bind, M.ok_bind, setIx_ok (j := s.1.toNat) (by omega) (by omega), M.ok_bind, setIx_ok (j := a.1.toNat) (by omega) (by rw [List.length_set]; omega)]
  refine M.sat_ok ?_
  have st := lab_step ok h1 h2 (List.mem_map.mpr ⟨(s, a), hp, rfl⟩) (lkF_at s0 (by omega)) (lkF_at a0 (by omega)) rfl
  have cg : ∀ k, (putI (putI (lkF 0 L) s.1 (if gd L a.1 < gd L s.1 then gd L a.1 else gd L s.1)) a.1 (if gd L a.1 < gd L s.1 then gd L a.1 else gd L s.1)).lookup k = (lkF 0 ((L.set s.1.toNat (if gd L a.1 < gd L s.1 then gd L a.1 else gd L s.1)).set a.1.toNat (if gd L a.1 < gd L s.1 then gd L a.1 else gd L s.1))).lookup k := fun k => by
    rw [lkF_set a0 (by rw [List.length_set]; omega)]
    exact putI_congr (fun k => (lkF_set s0 (by omega) k).symm) _ _ k
  refine ⟨by rw [List.length_set, List.length_set]; exact hl, labOk_congr cg st.1, fun x hx => (cor_congr cg).mp (st.2.1 x hx), fun h => (cor_congr cg).mp (st.2.2.1 h), fun h => (cor_congr cg).mp (st.2.2.2 h)⟩
theorem labels_eq (hn : ties.length ≤ 1000) : l_labels_m (TB ties) (ties.length : Int) = .ok ((PTS ties).map (rt ties)) := by
  unfold l_labels_m
  refine M.sat_val ?_
  refine M.sat_eq (rangeL_n ties.length (by omega)) ?_
  refine M.sat_eq (M.rangeN (by omega)) ?_
  refine M.sat_bind (M.sat_fold (fun k L => L.length = ties.length ∧ LabOk (PTS ties) (JJ ties) (lkF 0 L) ∧ (k ≤ (corr (PTS ties) (JJ ties) (lkF 0 L)).length ∨ (PTS ties).length ≤ (corr (PTS ties) (JJ ties) (lkF 0 L)).length)) ?_ fun k x L _ ⟨hl, ok, hc⟩ => ?_) fun L ⟨hl, ok, hc⟩ => M.sat_ok ?_
  · refine ⟨rngL_len _ _, ⟨fun t => ?_, fun x y e => ?_⟩, .inl (Nat.zero_le _)⟩
    · rw [lkF_lk, mem_PTS]
      by_cases h : ((0 : Nat) : Int) ≤ t
      · rw [if_pos h]
        unfold rngL
        rw [List.getElem?_map]
        by_cases h2 : t < ties.length
        · rw [List.getElem?_range (by omega)]; simp; omega
        · rw [List.getElem?_eq_none (by simp; omega)]; simp; omega
      · rw [if_neg h]; simp; omega
    · rw [lkF_lk] at e
      by_cases h : ((0 : Nat) : Int) ≤ x
      · rw [if_pos h] at e
        obtain ⟨h1, h2⟩ := rngL_get e
        have : y = x := by omega
        subst this
        exact ⟨Int.le_refl _, mem_PTS.mpr ⟨by omega, by omega⟩, .refl _⟩
      · rw [if_neg h] at e; cases e
  · rw [M.ok_bind, keys_TB]
    refine M.sat_bind (R1 := fun L' => L'.length = ties.length ∧ LabOk (PTS ties) (JJ ties) (lkF 0 L') ∧ (∀ x, Cor (PTS ties) (JJ ties) (lkF 0 L) x → Cor (PTS ties) (JJ ties) (lkF 0 L') x) ∧ ∀ j p, j < (EE ties).length → (EE ties)[j]? = some p →
        (Cor (PTS ties) (JJ ties) (lkF 0 L) p.1.1 → Cor (PTS ties) (JJ ties) (lkF 0 L') p.2.1) ∧ (Cor (PTS ties) (JJ ties) (lkF 0 L) p.2.1 → Cor (PTS ties) (JJ ties) (lkF 0 L') p.1.1)) ?_ fun L' ⟨hl', ok', hm, hd⟩ => M.sat_ok ⟨hl', ok', ?_⟩
    · rw [fold_nest (g := fols ties) fun s hs => by rw [lk_TB (mem_allSteps.mp hs)]; rfl]
      refine M.sat_fold (fun i L' => L'.length = ties.length ∧ LabOk (PTS ties) (JJ ties) (lkF 0 L') ∧ (∀ x, Cor (PTS ties) (JJ ties) (lkF 0 L) x → Cor (PTS ties) (JJ ties) (lkF 0 L') x) ∧ ∀ j p, j < i → (EE ties)[j]? = some p →
        (Cor (PTS ties) (JJ ties) (lkF 0 L) p.1.1 → Cor (PTS ties) (JJ ties) (lkF 0 L') p.2.1) ∧ (Cor (PTS ties) (JJ ties) (lkF 0 L) p.2.1 → Cor (PTS ties) (JJ ties) (lkF 0 L') p.1.1)) ⟨hl, ok, fun _ h => h, fun j p hj => absurd hj (Nat.not_lt_zero _)⟩ fun i p L1 hi ⟨hl1, ok1, hm1, hd1⟩ => ?_
      refine M.sat_mono (lab_one hl1 ok1 (List.mem_of_getElem? hi)) fun L2 ⟨hl2, ok2, hm2, ha, hb⟩ => ⟨hl2, ok2, fun x hx => hm2 x (hm1 x hx), fun j q hj hq => ?_⟩
      by_cases e : j = i
      · subst e
        have hi' : (EE ties)[j]? = some p := hi
        rw [hi'] at hq
        cases hq
        exact ⟨fun h => ha (hm1 _ h), fun h => hb (hm1 _ h)⟩
      · have := hd1 j q (by omega) hq
        exact ⟨fun h => hm2 _ (this.1 h), fun h => hm2 _ (this.2 h)⟩
    · refine lab_round (rngL_nodup' 0 _) ok hm (fun a b hab ha hb => ?_) hc
      obtain ⟨p, hp, e⟩ := List.mem_map.mp hab
      obtain ⟨j, hj, ej⟩ := List.getElem_of_mem hp
      simp only [Prod.mk.injEq] at e
      have := hd j p hj (by rw [List.getElem?_eq_getElem hj, ej])
      rw [e.1, e.2] at this
      exact this
  · have hall : (PTS ties).length ≤ (corr (PTS ties) (JJ ties) (lkF 0 L)).length := by
      rcases hc with h | h
      · exact h
      · exact h
    refine row_ext hl (by rw [List.length_map, rngL_len]) fun t h0 h1 => ?_
    rw [gd_map h0 h1]
    have ht := mem_PTS.mpr ⟨h0, h1⟩
    obtain ⟨y, ey, hy⟩ := lab_all (rngL_nodup' 0 _) hall ht
    have q := ok.le t y ey
    rw [lkF_at h0 (by omega)] at ey
    cases ey
    obtain ⟨r1, r2, r3⟩ := rt_spec ht
    exact min_unique q.2.1 r1 hy r2 q.2.2.symm r3
/-! comprehensions with two fors -/
theorem comp2_of {α β γ : Type} {m1 : α → M (List γ)} {f : α → γ → M β} (m1' : α → List γ) (f' : α → γ → β) : ∀ {xs : List α}, (∀ x ∈ xs, m1 x = .ok (m1' x)) → (∀ x ∈ xs, ∀ y ∈ m1' x, f x y = .ok (f' x y)) →
    M.comp2 (fun _ => .ok true) m1 (fun _ _ => .ok true) f xs = .ok (xs.flatMap fun x => (m1' x).map (f' x))
  | [], _, _ => rfl
  | x :: xs, h1, h2 => by
    have ih := comp2_of m1' f' (xs := xs) (fun y hy => h1 y (List.mem_cons_of_mem _ hy)) fun y hy => h2 y (List.mem_cons_of_mem _ hy)
    show ((M.calm (.ok true) >>= fun b => if b then M.calm (m1 x) >>= fun zs => M.comp (fun _ => .ok true) (f x) zs else .ok []) >>= fun ys => M.comp2 (fun _ => .ok true) m1 (fun _ _ => .ok true) f xs >>= fun zs => .ok (ys ++ zs)) = _
    rw [ih, h1 x List.mem_cons_self]
    simp only [M.calm_of_ok, M.ok_bind, if_true]
    rw [M.comp_mapM (f' x) fun y hy => h2 x List.mem_cons_self y hy]
    rfl
theorem lc2_of {α β γ : Type} {m1 : α → M (List γ)} {f : α → γ → M β} (m1' : α → List γ) (f' : α → γ → β) {xs : List α} (h1 : ∀ x ∈ xs, m1 x = .ok (m1' x)) (h2 : ∀ x ∈ xs, ∀ y ∈ m1' x, f x y = .ok (f' x y)) (hl : (xs.flatMap fun x => (m1' x).map (f' x)).length ≤ 100000) :
    M.lc2 (fun _ => .ok true) m1 (fun _ _ => .ok true) f xs = .ok (xs.flatMap fun x => (m1' x).map (f' x)) := by
  unfold M.lc2
  rw [comp2_of m1' f' h1 h2, M.ok_bind]
  exact M.asrt_pos (Nat.le_of_lt (small1k hl))
theorem steps_flat (n : Nat) : ((rngL 0 n).flatMap fun x => [(0 : Int), 1].map fun y => (x, y)) = allSteps n := by
  induction n with
  | zero => rfl
  | succ n ih =>
    have : rngL 0 (n + 1) = rngL 0 n ++ [(n : Int)] := by unfold rngL; rw [List.range_succ, List.map_append]; simp
    rw [this, List.flatMap_append, ih]
    rfl
theorem EE_len : (EE ties).length ≤ 4 * ties.length * ties.length := by
  have key : ∀ l : List (Int × Int), (l.flatMap fun s => (fols ties s).map fun a => (s, a)).length ≤ l.length * (2 * ties.length) := by
    intro l
    induction l with
    | nil => simp
    | cons s l ih =>
      rw [List.flatMap_cons, List.length_append, List.length_map, List.length_cons, Nat.add_mul, Nat.one_mul]
      have : (fols ties s).length ≤ 2 * ties.length := by
        unfold fols
        rw [← allSteps_len ties.length]
        exact List.length_filter_le _ _
      omega
  have := key (allSteps ties.length)
  rw [allSteps_len] at this
  unfold EE
  have e : 2 * ties.length * (2 * ties.length) = 4 * ties.length * ties.length := by
    rw [Nat.mul_assoc, Nat.mul_assoc, Nat.mul_left_comm ties.length 2 ties.length, ← Nat.mul_assoc 2 2]
  omega
theorem every_eq (sides : List Int) (hn : ties.length ≤ 1000) : p_every_step_m ⟨⟨sides⟩, ⟨ties⟩⟩ = .ok (allSteps ties.length) := by
  unfold p_every_step_m
  show (M.range (ties.length : Int) >>= _) = _
  rw [M.rangeN (by omega), M.ok_bind, lc2_of (fun _ => [0, 1]) (fun x y => (x, y)) (fun _ _ => rfl) (fun _ _ _ _ => rfl), steps_flat]
  rw [steps_flat, allSteps_len]; omega
/-! which lists of directions are facings -/
def badP (r : List Int) (s a : Int × Int) : Bool := !decide (decide (gd r s.1 = s.2) = decide (gd r a.1 = a.2))
theorem any_bad {r : List Int} : ((allSteps ties.length).find? fun s => (fols ties s).any fun a => badP r s a) = none ↔ Keep ties (gd r) := by
  rw [List.find?_eq_none]
  unfold Keep
  constructor
  · intro h s a hE
    obtain ⟨hs, ha⟩ := mem_EE.mp hE
    have := h s (mem_allSteps.mpr hs)
    rw [List.any_eq_true] at this
    apply Classical.byContradiction
    intro z
    refine this ⟨a, ha, ?_⟩
    unfold badP
    rw [Bool.not_eq_true', decide_eq_false_iff_not]
    exact fun e => z (decide_eq_decide.mp e)
  · intro h s hs z
    obtain ⟨a, ha, hb⟩ := List.any_eq_true.mp z
    unfold badP at hb
    rw [Bool.not_eq_true', decide_eq_false_iff_not] at hb
    exact hb (decide_eq_decide.mpr (h s a (mem_EE.mpr ⟨mem_allSteps.mp hs, ha⟩)))
theorem fac_len {r : List Int} (h : r.length ≠ ties.length) : decide (Fac ties r) = false := by
  rw [decide_eq_false_iff_not]; exact fun z => h z.1
theorem keeps_eq (r : List Int) : l_keeps_m (TB ties) (ties.length : Int) r = .ok (decide (Fac ties r)) := by
  unfold l_keeps_m
  by_cases hl : r.length = ties.length
  rotate_left
  · have : (!decide ((r.length : Int) = ties.length)) = true := by simp; omega
    rw [if_pos this, fac_len hl]
  have hl' : (!decide ((r.length : Int) = ties.length)) = false := by simp; omega
  rw [if_neg (by rw [hl']; decide), M.ok_bind, foldC_find' (s := ()) (fun x : Int => (!decide (x = 0)) && (!decide (x = 1))) (fun _ => false) fun x _ => ?_]
  rotate_left
  · cases (!decide (x = 0)) && (!decide (x = 1)) <;> rfl
  rw [M.ok_bind]
  cases hf : r.find? (fun x : Int => (!decide (x = 0)) && (!decide (x = 1))) with
  | some x =>
    have h1 := List.find?_some hf
    have h2 := List.mem_of_find?_eq_some hf
    show M.ok false = _
    have : decide (Fac ties r) = false := by
      rw [decide_eq_false_iff_not]
      intro z
      have := z.2.1 x h2
      simp at h1
      omega
    rw [this]
  | none =>
    have h01 : ∀ x ∈ r, x = 0 ∨ x = 1 := fun x hx => by
      have := List.find?_eq_none.mp hf x hx
      simp at this
      omega
    show (M.ok _ >>= _) = _
    rw [M.ok_bind, keys_TB, foldC_find' (s := ()) (fun s => (fols ties s).any fun a => badP r s a) (fun _ => false) fun s hs => ?_]
    rotate_left
    · have hst := mem_allSteps.mp hs
      rw [lk_TB hst]
      show (M.ok (fols ties s) >>= _) = _
      rw [M.ok_bind, foldC_find' (s := ()) (fun a => badP r s a) (fun _ => false) fun a ha => ?_]
      rotate_left
      · have hat := (mem_fols.mp ha).1
        rw [M.ix_getD 0 hst.1 (by have := hst.2.1; omega), M.ok_bind, M.ok_bind, M.ix_getD 0 hat.1 (by have := hat.2.1; omega)]
        simp only [M.ok_bind]
        show (if badP r s a = true then _ else _) = _
        cases badP r s a <;> rfl
      rw [M.ok_bind]
      cases hb : (fols ties s).find? (fun a => badP r s a) with
      | some a =>
        have : ((fols ties s).any fun a => badP r s a) = true := List.any_eq_true.mpr ⟨a, List.mem_of_find?_eq_some hb, List.find?_some hb⟩
        rw [this]; rfl
      | none =>
        have : ((fols ties s).any fun a => badP r s a) = false := by
          rw [Bool.eq_false_iff]
          intro z
          obtain ⟨a, ha, hb2⟩ := List.any_eq_true.mp z
          exact List.find?_eq_none.mp hb a ha hb2
        rw [this]; rfl
    rw [M.ok_bind]
    by_cases hk : Keep ties (gd r)
    · rw [any_bad.mpr hk]
      have : Fac ties r := ⟨hl, h01, hk⟩
      rw [decide_eq_true this]; rfl
    · have hn : ¬ Fac ties r := fun z => hk z.2.2
      rw [decide_eq_false hn]
      cases hb : (allSteps ties.length).find? (fun s => (fols ties s).any fun a => badP r s a) with
      | some s => rfl
      | none => exact absurd (any_bad.mp hb) hk
theorem facing_core (sides : List Int) (g : Good sides ties) (hn : ties.length ≤ 1000) (r : List Int) (hl : r.length = ties.length) (h01 : ∀ x ∈ r, x = 0 ∨ x = 1) :
    ((p_every_step_m ⟨⟨sides⟩, ⟨ties⟩⟩) >>= fun l18 =>
    M.foldC (fun (_ : Unit) x5 =>
      ((M.ix r x5.1) >>= fun t6 => (M.ok (decide (x5.2 = t6)))) >>= fun along_7 =>
        (p_followers_m ⟨⟨sides⟩, ⟨ties⟩⟩ x5) >>= fun l15 =>
        M.foldC (fun (_ : Unit) x9 =>
          (((M.ix r x9.1) >>= fun t10 => (M.ok (decide (x9.2 = t10)))) >>= fun t11 => (M.ok (!decide (t11 = along_7)))) >>= fun b12 => if b12 then
            (M.ok false) >>= fun r => .ok (.rt r)
          else
            M.ok (.nx ())) () l15 >>= fun c14 => Ct.go c14 (fun r => M.ok (.rt r)) fun (_ : Unit) =>
        M.ok (.nx ())) () l18 >>= fun c17 => Ct.go c17 M.ok fun (_ : Unit) =>
    (M.ok true)) = .ok (decide (Fac ties r)) := by
  rw [every_eq sides hn, M.ok_bind, foldC_find' (s := ()) (fun s => (fols ties s).any fun a => badP r s a) (fun _ => false) fun s hs => ?_]
  rotate_left
  · have hst := mem_allSteps.mp hs
    rw [M.ix_getD 0 hst.1 (by have := hst.2.1; omega), M.ok_bind, M.ok_bind, followers_eq g (by omega) hst, M.ok_bind, foldC_find' (s := ()) (fun a => badP r s a) (fun _ => false) fun a ha => ?_]
    rotate_left
    · have hat := (mem_fols.mp ha).1
      rw [M.ix_getD 0 hat.1 (by have := hat.2.1; omega)]
      simp only [M.ok_bind]
      have : (!decide (decide (a.2 = r.getD a.1.toNat 0) = decide (s.2 = r.getD s.1.toNat 0))) = badP r s a := by
        unfold badP gd
        congr 1
        refine decide_eq_decide.mpr ⟨fun e => ?_, fun e => ?_⟩
        · rw [decide_eq_decide] at e ⊢
          exact ⟨fun q => (e.mpr q.symm).symm, fun q => (e.mp q.symm).symm⟩
        · rw [decide_eq_decide] at e ⊢
          exact ⟨fun q => (e.mpr q.symm).symm, fun q => (e.mp q.symm).symm⟩
      rw [this]
    rw [M.ok_bind]
    cases hb : (fols ties s).find? (fun a => badP r s a) with
    | some a =>
      have : ((fols ties s).any fun a => badP r s a) = true := List.any_eq_true.mpr ⟨a, List.mem_of_find?_eq_some hb, List.find?_some hb⟩
      rw [this]; rfl
    | none =>
      have : ((fols ties s).any fun a => badP r s a) = false := by
        rw [Bool.eq_false_iff]
        intro z
        obtain ⟨a, ha, hb2⟩ := List.any_eq_true.mp z
        exact List.find?_eq_none.mp hb a ha hb2
      rw [this]; rfl
  rw [M.ok_bind]
  by_cases hk : Keep ties (gd r)
  · rw [any_bad.mpr hk]
    have : Fac ties r := ⟨hl, h01, hk⟩
    rw [decide_eq_true this]; rfl
  · have hn : ¬ Fac ties r := fun z => hk z.2.2
    rw [decide_eq_false hn]
    cases hb : (allSteps ties.length).find? (fun s => (fols ties s).any fun a => badP r s a) with
    | some s => rfl
    | none => exact absurd (any_bad.mp hb) hk
theorem first_test (r : List Int) : (if (!decide ((r.length : Int) = (ties.length : Int))) then M.ok true else (((M.comp (fun _ => (M.ok true)) (fun x1 => (M.ok (memB x1 [(0 : Int), (1 : Int)]))) r) >>= fun t2 => (M.ok (t2.all id))) >>= fun t3 => (M.ok (!t3)))) = .ok (!decide (r.length = ties.length ∧ ∀ x ∈ r, x = 0 ∨ x = 1)) := by
  by_cases hl : r.length = ties.length
  · have hl' : (!decide ((r.length : Int) = ties.length)) = false := by simp; omega
    rw [if_neg (by rw [hl']; decide), M.comp_map]
    simp only [M.ok_bind]
    congr 2
    rw [Bool.eq_iff_iff]
    simp only [List.all_map, List.all_eq_true, Function.comp, id, decide_eq_true_eq]
    constructor
    · intro h; exact ⟨hl, fun x hx => by have := memB_iff.mp (h x hx); simpa using this⟩
    · intro h x hx; exact memB_iff.mpr (by simpa using h.2 x hx)
  · have hl' : (!decide ((r.length : Int) = ties.length)) = true := by simp; omega
    rw [if_pos hl']
    have : ¬ (r.length = ties.length ∧ ∀ x ∈ r, x = 0 ∨ x = 1) := fun z => hl z.1
    rw [decide_eq_false this]; rfl
theorem is_facing_eq {sides : List Int} (g : Good sides ties) (hn : ties.length ≤ 1000) (r : List Int) : p_is_facing_m ⟨⟨sides⟩, ⟨ties⟩⟩ r = .ok (decide (Fac ties r)) := by
  unfold p_is_facing_m
  rw [first_test, M.ok_bind]
  by_cases h : r.length = ties.length ∧ ∀ x ∈ r, x = 0 ∨ x = 1
  · rw [decide_eq_true h, if_neg (by decide)]
    exact facing_core sides g hn r h.1 h.2
  · rw [decide_eq_false h, if_pos (by decide)]
    have : ¬ Fac ties r := fun z => h ⟨z.1, z.2.1⟩
    rw [decide_eq_false this]
theorem is_facing_eq2 {sides : List Int} (g : Good sides ties) (hn : ties.length ≤ 1000) (r : List Int) : p_is_facing_v2_m ⟨⟨sides⟩, ⟨ties⟩⟩ ⟨r⟩ = .ok (decide (Fac ties r)) := is_facing_eq g hn r
/-! the law's forced directions -/
def neg (D : List Int) : Nat := (D.filter fun x => decide (x < 0)).length
theorem neg_set : ∀ {D : List Int} {j : Nat} {x v : Int}, D[j]? = some x → x < 0 → 0 ≤ v → neg (D.set j v) + 1 = neg D
  | [], j, x, v, h, _, _ => by simp at h
  | y :: D, 0, x, v, h, h1, h2 => by
    simp at h
    subst h
    unfold neg
    rw [List.set_cons_zero, List.filter_cons, List.filter_cons, if_neg (by simp; omega), if_pos (by simpa using h1), List.length_cons]
  | y :: D, j + 1, x, v, h, h1, h2 => by
    rw [List.getElem?_cons_succ] at h
    have ih := neg_set h h1 h2
    unfold neg at ih ⊢
    rw [List.set_cons_succ, List.filter_cons, List.filter_cons]
    split
    · rw [List.length_cons, List.length_cons]; omega
    · exact ih
theorem gd_set {D : List Int} {i t v : Int} (hi : 0 ≤ i) (hl : i < D.length) (ht : 0 ≤ t) : gd (D.set i.toNat v) t = if t = i then v else gd D t := by
  unfold gd
  rw [List.getD_eq_getElem?_getD, List.getD_eq_getElem?_getD]
  by_cases e : t = i
  · subst e; rw [if_pos rfl, List.getElem?_set_self (by omega)]; rfl
  · rw [if_neg e, List.getElem?_set_ne (by omega)]
structure Part (ties : List T4I) (D : List Int) : Prop where
  len : D.length = ties.length
  val : ∀ t ∈ PTS ties, gd D t = -1 ∨ gd D t = 0 ∨ gd D t = 1
  low : ∀ q, Fac ties q → ∀ t ∈ PTS ties, 0 ≤ gd D t → gd D t = low0 ties (gd q) t
def Closed (ties : List T4I) (D : List Int) : Prop := ∀ s a, (s, a) ∈ EE ties → 0 ≤ gd D s.1 → 0 ≤ gd D a.1
theorem closed_reach {D : List Int} (h : Closed ties D) {u v : Int} (r : Reach (PTS ties) (JJ ties) u v) (hu : 0 ≤ gd D u) : 0 ≤ gd D v := by
  induction r with
  | refl => exact hu
  | tail _ a ih =>
    obtain ⟨s, b, hE, rfl, rfl⟩ := adj_EE a
    exact h s b hE ih
def nxt (D : List Int) (s a : Int × Int) : Int := if gd D s.1 = s.2 then a.2 else 1 - a.2
theorem Part.go {D : List Int} (h : Part ties D) {s a : Int × Int} (hE : (s, a) ∈ EE ties) (hs : 0 ≤ gd D s.1) : Part ties (D.set a.1.toNat (nxt D s a)) ∧ (nxt D s a = 0 ∨ nxt D s a = 1) := by
  obtain ⟨h1, h2⟩ := EE_pts hE
  obtain ⟨hst, haf⟩ := mem_EE.mp hE
  have ha2 := (mem_fols.mp haf).1.2.2
  have v01 : nxt D s a = 0 ∨ nxt D s a = 1 := by unfold nxt; split <;> omega
  have hl : a.1 < D.length := by rw [h.len]; exact (mem_PTS.mp h2).2
  refine ⟨⟨by rw [List.length_set]; exact h.len, fun t ht => ?_, fun q hq t ht h0 => ?_⟩, v01⟩
  · rw [gd_set (mem_PTS.mp h2).1 hl (mem_PTS.mp ht).1]
    split
    · omega
    · exact h.val t ht
  · rw [gd_set (mem_PTS.mp h2).1 hl (mem_PTS.mp ht).1] at h0 ⊢
    by_cases e : t = a.1
    · rw [if_pos e]
      subst e
      have k := low0_keep hq.b hq.2.2 s a hE
      have b1 := low0_b hq.b s.1 h1
      have b2 := low0_b hq.b a.1 h2
      rw [← h.low q hq s.1 h1 hs] at k
      unfold nxt
      by_cases z : gd D s.1 = s.2
      · rw [if_pos z]; exact (k.mp z).symm
      · rw [if_neg z]
        have : ¬ low0 ties (gd q) a.1 = a.2 := fun w => z (k.mpr w)
        omega
    · rw [if_neg e] at h0 ⊢
      exact h.low q hq t ht h0
def hit (D : List Int) (s a : Int × Int) : Bool := decide (0 ≤ gd D s.1) && decide (gd D a.1 < 0)
theorem carried_sat {D : List Int} (hl : D.length = ties.length) : M.sat (l_carried_m (TB ties) D) fun r => (r = (false, D) ∧ Closed ties D) ∨ ∃ s a, (s, a) ∈ EE ties ∧ 0 ≤ gd D s.1 ∧ gd D a.1 < 0 ∧ r = (true, D.set a.1.toNat (nxt D s a)) := by
  unfold l_carried_m
  rw [M.ok_bind, keys_TB]
  rw [foldC_find' (s := D) (fun s => (fols ties s).any (hit D s)) (fun s => match (fols ties s).find? (hit D s) with | some a => (true, D.set a.1.toNat (nxt D s a)) | none => (true, D)) fun s hs => ?_]
  rotate_left
  · have hst := mem_allSteps.mp hs
    rw [lk_TB hst]
    show (M.ok (fols ties s) >>= _) = _
    rw [M.ok_bind, foldC_find' (s := D) (hit D s) (fun a => (true, D.set a.1.toNat (nxt D s a))) fun a ha => ?_]
    rotate_left
    · have hat := (mem_fols.mp ha).1
      rw [M.ix_getD 0 hst.1 (by have := hst.2.1; omega), M.ok_bind, M.ok_bind, M.ix_getD 0 hat.1 (by have := hat.2.1; omega)]
      simp only [M.ok_bind]
      have e : (if decide ((0 : Int) ≤ D.getD s.1.toNat 0) = true then (M.ok (decide (D.getD a.1.toNat 0 < (0 : Int))) : M Bool) else .ok false) = .ok (hit D s a) := by
        unfold hit gd
        by_cases z : (0 : Int) ≤ D.getD s.1.toNat 0
        · rw [decide_eq_true z, if_pos rfl, Bool.true_and]
        · rw [decide_eq_false z, if_neg (by decide), Bool.false_and]
      rw [e, M.ok_bind]
      cases hh : hit D s a with
      | false => rfl
      | true =>
        unfold hit at hh
        rw [Bool.and_eq_true, decide_eq_true_eq, decide_eq_true_eq] at hh
        have ne : s.1 ≠ a.1 := fun z => by rw [z] at hh; omega
        have hla : a.1 < D.length := by have := hat.2.1; omega
        rw [if_pos rfl, if_pos rfl, setIx_ok (j := a.1.toNat) (by have := hat.1; omega) (by have := hat.2.1; have := hat.1; omega), M.ok_bind,
          M.ix_getD 0 hst.1 (by rw [List.length_set]; have := hst.2.1; omega), M.ok_bind, M.ok_bind]
        have e2 : (D.set a.1.toNat a.2).getD s.1.toNat 0 = gd D s.1 := by
          have := gd_set (D := D) (v := a.2) hat.1 hla hst.1
          rw [if_neg ne] at this
          exact this
        rw [e2]
        unfold nxt
        by_cases z : gd D s.1 = s.2
        · rw [decide_eq_true z, if_neg (by decide), if_pos z]; rfl
        · rw [decide_eq_false z, if_pos (by decide), if_neg z, setIx_ok (j := a.1.toNat) (by have := hat.1; omega) (by rw [List.length_set]; have := hat.2.1; have := hat.1; omega), M.ok_bind, M.ok_bind, List.set_set]
    rw [M.ok_bind]
    cases hb : (fols ties s).find? (hit D s) with
    | some a =>
      have : ((fols ties s).any (hit D s)) = true := List.any_eq_true.mpr ⟨a, List.mem_of_find?_eq_some hb, List.find?_some hb⟩
      rw [this]; rfl
    | none =>
      have : ((fols ties s).any (hit D s)) = false := by
        rw [Bool.eq_false_iff]
        intro z
        obtain ⟨a, ha, hb2⟩ := List.any_eq_true.mp z
        exact List.find?_eq_none.mp hb a ha hb2
      rw [this]; rfl
  rw [M.ok_bind]
  cases hb : (allSteps ties.length).find? (fun s => (fols ties s).any (hit D s)) with
  | some s =>
    have h1 := List.find?_some hb
    have h2 := mem_allSteps.mp (List.mem_of_find?_eq_some hb)
    cases hc : (fols ties s).find? (hit D s) with
    | none =>
      obtain ⟨a, ha, hh⟩ := List.any_eq_true.mp h1
      exact absurd hh (List.find?_eq_none.mp hc a ha)
    | some a =>
      have h3 := List.find?_some hc
      have h4 := List.mem_of_find?_eq_some hc
      unfold hit at h3
      rw [Bool.and_eq_true, decide_eq_true_eq, decide_eq_true_eq] at h3
      refine M.sat_ok (.inr ⟨s, a, mem_EE.mpr ⟨h2, h4⟩, h3.1, h3.2, ?_⟩)
      show (match (fols ties s).find? (hit D s) with | some a => (true, D.set a.1.toNat (nxt D s a)) | none => (true, D)) = _
      rw [hc]
  | none =>
    refine M.sat_ok (.inl ⟨rfl, fun s a hE h0 => ?_⟩)
    obtain ⟨hs, ha⟩ := mem_EE.mp hE
    have := List.find?_eq_none.mp hb s (mem_allSteps.mpr hs)
    apply Classical.byContradiction
    intro z
    refine this (List.any_eq_true.mpr ⟨a, ha, ?_⟩)
    unfold hit
    rw [Bool.and_eq_true, decide_eq_true_eq, decide_eq_true_eq]
    exact ⟨h0, by omega⟩
theorem part_start {D : List Int} (h : Part ties D) (hc : Closed ties D) {i : Int} (hi : i ∈ PTS ties) (hb : ∀ t ∈ PTS ties, t < i → 0 ≤ gd D t) (hn : gd D i < 0) : rt ties i = i := by
  refine (rt_min hi).mpr fun y hy r => ?_
  apply Classical.byContradiction
  intro z
  have := closed_reach hc r.symm (hb y hy (by omega))
  omega
theorem forced_sat (hn : ties.length ≤ 1000) : M.sat (l_forced_m (TB ties) (ties.length : Int)) fun D => D.length = ties.length ∧ (∀ x ∈ D, x = 0 ∨ x = 1) ∧ ∀ q, Fac ties q → Fac ties D := by
  unfold l_forced_m
  rw [M.rangeN (by omega), M.ok_bind, M.comp_map, M.ok_bind, M.ok_bind]
  refine M.sat_bind (M.sat_fold (fun i D => Part ties D ∧ Closed ties D ∧ ∀ t ∈ PTS ties, t < (i : Int) → 0 ≤ gd D t) ?_ fun i x D hx ⟨hp, hc, hb⟩ => ?_) fun D ⟨hp, hc, hb⟩ => M.sat_ok ?_
  · have v : ∀ t ∈ PTS ties, gd ((rngL 0 ties.length).map fun _ => (-(1 : Int))) t = -1 := fun t ht => gd_map (f := fun _ => -1) (mem_PTS.mp ht).1 (mem_PTS.mp ht).2
    refine ⟨⟨by rw [List.length_map, rngL_len], fun t ht => .inl (v t ht), fun q hq t ht h0 => ?_⟩, fun s a hE h0 => ?_, fun t ht h => ?_⟩
    · rw [v t ht] at h0; omega
    · rw [v _ (EE_pts hE).1] at h0; omega
    · have := (mem_PTS.mp ht).1; omega
  · obtain ⟨hi, rfl⟩ := rngL_get hx
    rw [Int.zero_add]
    have hil : (i : Int) < D.length := by have := hp.len; omega
    have him : (i : Int) ∈ PTS ties := mem_PTS.mpr ⟨by omega, by omega⟩
    rw [M.ix_getD 0 (by omega) hil, M.ok_bind, M.ok_bind]
    refine M.sat_if (fun hneg => ?_) fun hneg => M.sat_ok ⟨hp, hc, fun t ht h => ?_⟩
    · have hneg' : gd D i < 0 := of_decide_eq_true hneg
      have hr := part_start hp hc him hb hneg'
      rw [setIx_ok (j := i) rfl (by omega), M.ok_bind]
      have hp0 : Part ties (D.set i 0) := ⟨by rw [List.length_set]; exact hp.len, fun t ht => by
        have := gd_set (D := D) (v := 0) (i := (i : Int)) (by omega) hil (mem_PTS.mp ht).1
        rw [Int.toNat_natCast] at this
        rw [this]
        split
        · exact .inr (.inl rfl)
        · exact hp.val t ht, fun q hq t ht h0 => by
        have := gd_set (D := D) (v := 0) (i := (i : Int)) (by omega) hil (mem_PTS.mp ht).1
        rw [Int.toNat_natCast] at this
        rw [this] at h0 ⊢
        by_cases e : t = (i : Int)
        · rw [if_pos e, e, low0_rt hq.b him hr]
        · rw [if_neg e] at h0 ⊢; exact hp.low q hq t ht h0⟩
      have hb0 : ∀ t ∈ PTS ties, t < ((i + 1 : Nat) : Int) → 0 ≤ gd (D.set i 0) t := fun t ht h => by
        have := gd_set (D := D) (v := 0) (i := (i : Int)) (by omega) hil (mem_PTS.mp ht).1
        rw [Int.toNat_natCast] at this
        rw [this]
        by_cases e : t = (i : Int)
        · rw [if_pos e]; exact Int.le_refl _
        · rw [if_neg e]; exact hb t ht (by omega)
      have hng : neg (D.set i 0) + 1 ≤ ties.length := by
        have := neg_set (D := D) (j := i) (x := gd D i) (v := 0) (by unfold gd; rw [List.getD_eq_getElem?_getD, Int.toNat_natCast, List.getElem?_eq_getElem (by omega)]; rfl) hneg' (Int.le_refl _)
        have h2 : neg D ≤ D.length := List.length_filter_le _ _
        have := hp.len
        omega
      rw [M.ok_bind]
      refine M.sat_bind (M.sat_foldC (Q := fun c => ∃ D', (c = .nx D' ∨ c = .bk D') ∧ Part ties D' ∧ Closed ties D' ∧ ∀ t ∈ PTS ties, t < ((i + 1 : Nat) : Int) → 0 ≤ gd D' t) (fun k D' => Part ties D' ∧ (∀ t ∈ PTS ties, t < ((i + 1 : Nat) : Int) → 0 ≤ gd D' t) ∧ k + neg D' + 1 ≤ ties.length) ⟨hp0, hb0, by omega⟩ (fun k y D' _ ⟨hp', hb', hk⟩ => ?_) fun D' ⟨hp', hb', hk⟩ => ?_) fun c ⟨D', hcc, hp', hc', hb'⟩ => ?_
      · rw [M.ok_bind]
        obtain ⟨r, er, hr⟩ := carried_sat hp'.len
        rw [er, M.calm_of_ok, M.ok_bind]
        rcases hr with ⟨rfl, hcl⟩ | ⟨s, a, hE, h0, h1, rfl⟩
        · exact M.sat_ok ⟨D', .inr rfl, hp', hcl, hb'⟩
        · obtain ⟨hp2, hv⟩ := hp'.go hE h0
          have h2 := (EE_pts hE).2
          have hla : a.1 < D'.length := by rw [hp'.len]; exact (mem_PTS.mp h2).2
          refine M.sat_ok ⟨hp2, fun t ht h => ?_, ?_⟩
          · rw [gd_set (mem_PTS.mp h2).1 hla (mem_PTS.mp ht).1]
            split
            · omega
            · exact hb' t ht h
          · have := neg_set (D := D') (j := a.1.toNat) (x := gd D' a.1) (v := nxt D' s a) (by unfold gd; rw [List.getD_eq_getElem?_getD, List.getElem?_eq_getElem (by have := (mem_PTS.mp h2).1; omega)]; rfl) h1 (by omega)
            show k + 1 + neg (D'.set a.1.toNat (nxt D' s a)) + 1 ≤ _
            omega
      · rw [rngL_len] at hk; omega
      · rcases hcc with rfl | rfl
        · exact M.sat_ok ⟨hp', hc', hb'⟩
        · exact M.sat_ok ⟨hp', hc', hb'⟩
    · by_cases e : t = (i : Int)
      · subst e
        have := of_decide_eq_false hneg
        show 0 ≤ D.getD (i : Int).toNat 0
        omega
      · exact hb t ht (by omega)
  · rw [rngL_len] at hb
    have all : ∀ t ∈ PTS ties, 0 ≤ gd D t := fun t ht => hb t ht (mem_PTS.mp ht).2
    refine ⟨hp.len, fun x hx => ?_, fun q hq => fac_forced hq hp.len fun t ht => hp.low q hq t ht (all t ht)⟩
    obtain ⟨j, hj, rfl⟩ := List.getElem_of_mem hx
    have ht : (j : Int) ∈ PTS ties := mem_PTS.mpr ⟨by omega, by have := hp.len; omega⟩
    have e : gd D j = D[j] := by unfold gd; rw [List.getD_eq_getElem?_getD, Int.toNat_natCast, List.getElem?_eq_getElem hj]; rfl
    have h1 := hp.val _ ht
    have h2 := all _ ht
    rw [e] at h1 h2
    omega
/-! the program's facing -/
theorem lookup_mem {β : Type} {k : Int} {x : β} : ∀ {kv : List (Int × β)}, kv.lookup k = some x → (k, x) ∈ kv
  | [], h => by simp at h
  | (a, b) :: r, h => by
    rw [List.lookup_cons] at h
    cases e : k == a with
    | true => rw [e] at h; simp at h e; subst h; subst e; exact List.mem_cons_self
    | false => rw [e] at h; exact List.mem_cons_of_mem _ (lookup_mem h)
theorem lookup_key {β : Type} {k : Int} {kv : List (Int × β)} (h : kv.lookup k = none) : k ∉ kv.map Prod.fst := by
  induction kv with
  | nil => simp
  | cons p r ih =>
    obtain ⟨a, b⟩ := p
    rw [List.lookup_cons] at h
    cases e : k == a with
    | true => rw [e] at h; cases h
    | false =>
      rw [e] at h
      rw [List.map_cons, List.mem_cons, not_or]
      exact ⟨by simpa using e, ih h⟩
structure PD (ties : List T4I) (kv : List (Int × Int)) : Prop where
  keys : (kv.map Prod.fst).Nodup
  mem : ∀ p ∈ kv, p.1 ∈ PTS ties ∧ (p.2 = 0 ∨ p.2 = 1) ∧ ∀ q, Fac ties q → p.2 = low0 ties (gd q) p.1
theorem PD.len {kv : List (Int × Int)} (h : PD ties kv) : kv.length ≤ ties.length := by
  have := len_le h.keys (pts := PTS ties) fun x hx => by
    obtain ⟨p, hp, rfl⟩ := List.mem_map.mp hx
    exact (h.mem p hp).1
  rw [List.length_map, rngL_len] at this
  exact this
theorem PD.at {kv : List (Int × Int)} (h : PD ties kv) {t x : Int} (e : kv.lookup t = some x) : t ∈ PTS ties ∧ (x = 0 ∨ x = 1) ∧ ∀ q, Fac ties q → x = low0 ties (gd q) t := h.mem (t, x) (lookup_mem e)
theorem PD.put {kv : List (Int × Int)} (h : PD ties kv) {t x : Int} (hn : kv.lookup t = none) (h1 : t ∈ PTS ties) (h2 : x = 0 ∨ x = 1) (h3 : ∀ q, Fac ties q → x = low0 ties (gd q) t) : PD ties (putI kv t x) ∧ (putI kv t x).length = kv.length + 1 := by
  have e : putI kv t x = kv ++ [(t, x)] := by unfold putI; rw [hn]; rfl
  rw [e]
  refine ⟨⟨?_, fun p hp => ?_⟩, by simp⟩
  · rw [List.map_append]
    refine List.nodup_append.mpr ⟨h.keys, by simp, fun a ha b hb z => ?_⟩
    simp at hb
    subst hb
    subst z
    exact lookup_key hn ha
  · rcases List.mem_append.mp hp with hp | hp
    · exact h.mem p hp
    · simp at hp; subst hp; exact ⟨h1, h2, h3⟩
def Has (kv : List (Int × Int)) (t : Int) : Prop := (kv.lookup t).isSome = true
theorem has_put {kv : List (Int × Int)} {t x u : Int} : Has (putI kv t x) u ↔ u = t ∨ Has kv u := by
  unfold Has
  rw [G.lookup_putI]
  by_cases e : u = t
  · simp [e]
  · simp [e]
abbrev Ad (ties : List T4I) (u v : Int) : Prop := Adj (PTS ties) (JJ ties) u v
def ClosedD (ties : List T4I) (kv : List (Int × Int)) : Prop := ∀ u v, Ad ties u v → Has kv u → Has kv v
theorem closedD_reach {kv : List (Int × Int)} (h : ClosedD ties kv) {u v : Int} (r : Reach (PTS ties) (JJ ties) u v) (hu : Has kv u) : Has kv v := by
  induction r with
  | refl => exact hu
  | tail _ a ih => exact h _ _ a ih
def alike (ties : List T4I) (s : Int × Int) : List (Int × Int) := fols ties s ++ (fols ties (bk s)).map bk
theorem fols_len (s : Int × Int) : (fols ties s).length ≤ 2 * ties.length := by
  unfold fols
  rw [← allSteps_len ties.length]
  exact List.length_filter_le _ _
theorem alike_eq {sides : List Int} (g : Good sides ties) (hn : ties.length ≤ 1000) {s : Int × Int} (h : IsStep ties s) : p_steps_alike_m ⟨⟨sides⟩, ⟨ties⟩⟩ s = .ok (alike ties s) := by
  unfold p_steps_alike_m alike
  have h1 := fols_len (ties := ties) s
  have h2 := fols_len (ties := ties) (bk s)
  rw [followers_eq g (by omega) h, M.ok_bind, back_eq, M.ok_bind, followers_eq g (by omega) h.bk, M.ok_bind, M.comp_mapM bk fun x _ => back_eq x, M.ok_bind]
  exact M.asrt_pos (Nat.le_of_lt (small1k (by rw [List.length_map]; omega)))
theorem alike_mem {s b : Int × Int} (hs : IsStep ties s) (hb : b ∈ alike ties s) : IsStep ties b ∧ ∀ q, Fac ties q → low0 ties (gd q) s.1 = s.2 → low0 ties (gd q) b.1 = b.2 := by
  rcases List.mem_append.mp hb with h | h
  · have hE := mem_EE.mpr ⟨hs, h⟩
    exact ⟨(mem_fols.mp h).1, fun q hq e => (low0_keep hq.b hq.2.2 s b hE).mp e⟩
  · obtain ⟨a, ha, rfl⟩ := List.mem_map.mp h
    have hE := mem_EE.mpr ⟨hs.bk, ha⟩
    have hst := (mem_fols.mp ha).1
    refine ⟨hst.bk, fun q hq e => ?_⟩
    have k := low0_keep hq.b hq.2.2 (bk s) a hE
    have b2 := low0_b hq.b a.1 (EE_pts hE).2
    have a2 := hst.2.2
    have s2 := hs.2.2
    show low0 ties (gd q) a.1 = 1 - a.2
    have z : ¬ low0 ties (gd q) (bk s).1 = (bk s).2 := fun w => by
      have w' : low0 ties (gd q) s.1 = 1 - s.2 := w
      omega
    have : ¬ low0 ties (gd q) a.1 = a.2 := fun w => z (k.mpr w)
    omega
theorem alike_adj {s : Int × Int} (hs : IsStep ties s) {v : Int} (h : Ad ties s.1 v) : ∃ b ∈ alike ties s, b.1 = v := by
  obtain ⟨s', a, hE, e1, e2⟩ := adj_EE h
  obtain ⟨hs', ha⟩ := mem_EE.mp hE
  have : s' = s ∨ s' = bk s := by
    obtain ⟨x, y⟩ := s
    obtain ⟨x', y'⟩ := s'
    have e1' : x' = x := e1
    subst e1'
    have h1 := hs.2.2
    have h2 := hs'.2.2
    simp only at h1 h2
    unfold bk
    simp only [Prod.mk.injEq, true_and]
    omega
  rcases this with rfl | rfl
  · exact ⟨a, List.mem_append_left _ ha, e2⟩
  · exact ⟨bk a, List.mem_append_right _ (List.mem_map.mpr ⟨a, ha, rfl⟩), e2⟩
structure Dfs (ties : List T4I) (kv0 kv : List (Int × Int)) (w : List (Int × Int)) : Prop where
  pd : PD ties kv
  wt : ∀ s ∈ w, IsStep ties s ∧ kv.lookup s.1 = some s.2
  old : ∀ t, Has kv0 t → Has kv t
theorem grow_sat (hn : ties.length ≤ 1000) {kv0 kv1 : List (Int × Int)} {w1 : List (Int × Int)} {s : Int × Int} (hd : Dfs ties kv0 kv1 w1) (hs : IsStep ties s) (es : kv1.lookup s.1 = some s.2) (hw : w1.length ≤ 10000) (hcl : ∀ t, Has kv1 t → (∃ s' ∈ w1, s'.1 = t) ∨ t = s.1 ∨ ∀ v, Ad ties t v → Has kv1 v) :
    M.sat (M.fold (fun (s8 : ((DI Int) × (List (Int × Int)))) x9 =>
              if (!(s8.1.kv.lookup x9.1).isSome) then
                M.dput s8.1 (M.ok x9.1) (M.ok x9.2) >>= fun directions_10 =>
                  M.push s8.2 (M.ok (x9.1, x9.2)) >>= fun waiting_11 =>
                  M.ok (directions_10, waiting_11)
              else
                M.ok (s8.1, s8.2)) ((⟨kv1⟩ : DI Int), w1) (alike ties s)) fun r => Dfs ties kv0 r.1.kv r.2 ∧ r.2.length + kv1.length = w1.length + r.1.kv.length ∧ ∀ t, Has r.1.kv t → (∃ s' ∈ r.2, s'.1 = t) ∨ ∀ v, Ad ties t v → Has r.1.kv v := by
  refine M.sat_mono (M.sat_fold (fun i (r : (DI Int) × (List (Int × Int))) => Dfs ties kv0 r.1.kv r.2 ∧ r.2.length + kv1.length = w1.length + r.1.kv.length ∧ (∀ t, Has kv1 t → Has r.1.kv t) ∧ (∀ j b, j < i → (alike ties s)[j]? = some b → Has r.1.kv b.1) ∧ ∀ t, Has r.1.kv t → (∃ s' ∈ r.2, s'.1 = t) ∨ t = s.1 ∨ ∀ v, Ad ties t v → Has r.1.kv v)
    ⟨hd, rfl, fun _ h => h, fun j b hj => absurd hj (Nat.not_lt_zero _), hcl⟩ fun i b r hb ⟨h1, h2, h3, h4, h5⟩ => ?_) fun r ⟨h1, h2, h3, h4, h5⟩ => ⟨h1, h2, fun t ht => ?_⟩
  · obtain ⟨⟨kv⟩, w⟩ := r
    simp only at h1 h2 h3 h4 h5 ⊢
    obtain ⟨hbs, hbv⟩ := alike_mem hs (List.mem_of_getElem? hb)
    have hlen := h1.pd.len
    cases hk : kv.lookup b.1 with
    | some y =>
      rw [if_neg (by simp)]
      refine M.sat_ok ⟨h1, h2, h3, fun j c hj hc => ?_, h5⟩
      by_cases e : j = i
      · subst e; rw [hb] at hc; cases hc; unfold Has; rw [hk]; rfl
      · exact h4 j c (by omega) hc
    | none =>
      have ep := h1.pd.put hk (mem_PTS.mpr ⟨hbs.1, hbs.2.1⟩) hbs.2.2 fun q hq => (hbv q hq ((hd.pd.at es).2.2 q hq).symm).symm
      rw [if_pos (by simp), dput_ok (by show kv.length ≤ _; omega), M.ok_bind, M.push_small (by have := hd.pd.len; omega), M.ok_bind]
      refine M.sat_ok ⟨⟨ep.1, fun s' hs' => ?_, fun t ht => has_put.mpr (.inr (h1.old t ht))⟩, ?_, fun t ht => has_put.mpr (.inr (h3 t ht)), fun j c hj hc => ?_, fun t ht => ?_⟩
      · rcases List.mem_append.mp hs' with z | z
        · obtain ⟨a1, a2⟩ := h1.wt s' z
          refine ⟨a1, ?_⟩
          show (putI kv b.1 b.2).lookup s'.1 = _
          rw [G.lookup_putI]
          by_cases e : s'.1 = b.1
          · rw [e, hk] at a2; cases a2
          · rw [if_neg e]; exact a2
        · simp at z
          subst z
          refine ⟨hbs, ?_⟩
          show (putI kv b.1 b.2).lookup b.1 = _
          rw [G.lookup_putI, if_pos rfl]
      · show (w ++ [(b.1, b.2)]).length + kv1.length = w1.length + (putI kv b.1 b.2).length
        rw [ep.2, List.length_append]
        simp
        omega
      · by_cases e : j = i
        · subst e; rw [hb] at hc; cases hc; exact has_put.mpr (.inl rfl)
        · exact has_put.mpr (.inr (h4 j c (by omega) hc))
      · rcases has_put.mp ht with rfl | ht
        · exact .inl ⟨(b.1, b.2), by simp, rfl⟩
        · rcases h5 t ht with ⟨s', hs', e⟩ | e | z
          · exact .inl ⟨s', List.mem_append_left _ hs', e⟩
          · exact .inr (.inl e)
          · exact .inr (.inr fun v hv => has_put.mpr (.inr (z v hv)))
  · rcases h5 t ht with z | e | z
    · exact .inl z
    · subst e
      refine .inr fun v hv => ?_
      obtain ⟨b, hb, rfl⟩ := alike_adj hs hv
      obtain ⟨j, hj, ej⟩ := List.getElem_of_mem hb
      exact h4 j b hj (by rw [List.getElem?_eq_getElem hj, ej])
    · exact .inr z
theorem facing_sat {sides : List Int} (g : Good sides ties) (hn : ties.length ≤ 1000) : M.sat (p_facing_m ⟨⟨sides⟩, ⟨ties⟩⟩) fun o => o.isNone = true ↔ ¬ ∃ q, Fac ties q := by
  unfold p_facing_m
  rw [M.ok_bind]
  show M.sat (M.range (ties.length : Int) >>= _) _
  rw [M.rangeN (by omega), M.ok_bind]
  refine M.sat_bind (M.sat_fold (fun i (d : DI Int) => PD ties d.kv ∧ ClosedD ties d.kv ∧ ∀ t ∈ PTS ties, t < (i : Int) → Has d.kv t) ?_ fun i x d hx ⟨hp, hc, hb⟩ => ?_) fun d ⟨hp, hc, hb⟩ => ?_
  · refine ⟨⟨List.nodup_nil, fun p h => nomatch h⟩, fun u v _ h => ?_, fun t ht h => ?_⟩
    · cases h
    · have := (mem_PTS.mp ht).1; omega
  · obtain ⟨hi, rfl⟩ := rngL_get hx
    rw [Int.zero_add]
    have him : (i : Int) ∈ PTS ties := mem_PTS.mpr ⟨by omega, by omega⟩
    cases hk : d.kv.lookup (i : Int) with
    | some y =>
      rw [if_neg (by simp)]
      refine M.sat_ok ⟨hp, hc, fun t ht h => ?_⟩
      by_cases e : t = (i : Int)
      · subst e; unfold Has; rw [hk]; rfl
      · exact hb t ht (by omega)
    | none =>
      have hr : rt ties (i : Int) = i := by
        refine (rt_min him).mpr fun y hy r => ?_
        apply Classical.byContradiction
        intro z
        have := closedD_reach hc r.symm (hb y hy (by omega))
        unfold Has at this
        rw [hk] at this
        cases this
      have ep := hp.put hk him (.inl rfl) fun q hq => (low0_rt hq.b him hr).symm
      have hlen := hp.len
      rw [if_pos (by simp), dput_ok (by omega), M.ok_bind, M.ok_bind]
      refine M.sat_bind (M.sat_loop (R := fun r => PD ties r.1.kv ∧ (∀ t, Has (putI d.kv i 0) t → Has r.1.kv t) ∧ ClosedD ties r.1.kv) (fun (r : (DI Int) × (List (Int × Int))) => Dfs ties (putI d.kv i 0) r.1.kv r.2 ∧ r.2.length ≤ r.1.kv.length ∧ ∀ t, Has r.1.kv t → (∃ s' ∈ r.2, s'.1 = t) ∨ ∀ v, Ad ties t v → Has r.1.kv v) (fun r => (ties.length - r.1.kv.length) + r.2.length) ?_ fun r ⟨h1, h2, h3⟩ => ⟨_, rfl, fun hne => ?_, fun he => ?_⟩) fun r ⟨q1, q2, q3⟩ => M.sat_ok ⟨q1, q3, fun t ht h => ?_⟩
      · refine ⟨⟨ep.1, fun s hs => ?_, fun _ h => h⟩, ?_, fun t ht => ?_⟩
        · simp at hs
          subst hs
          refine ⟨⟨by simp, by show (i : Int) < _; omega, .inl rfl⟩, ?_⟩
          show (putI d.kv i 0).lookup (i : Int) = some 0
          rw [G.lookup_putI, if_pos rfl]
        · show 1 ≤ (putI d.kv (i : Int) 0).length
          rw [ep.2]; omega
        · rcases has_put.mp ht with rfl | ht
          · exact .inl ⟨((i : Int), 0), by simp, rfl⟩
          · exact .inr fun v hv => has_put.mpr (.inr (hc t v hv ht))
      · obtain ⟨⟨kv⟩, w⟩ := r
        simp only at h1 h2 h3 hne ⊢
        have hw : w ≠ [] := by intro z; subst z; simp at hne
        obtain ⟨w', s, rfl⟩ : ∃ w' s, w = w' ++ [s] := ⟨w.dropLast, w.getLast hw, (List.dropLast_concat_getLast hw).symm⟩
        obtain ⟨hs, es⟩ := h1.wt s (by simp)
        have hl := h1.pd.len
        simp at h2
        rw [M.popL_snoc, M.ok_bind, alike_eq g hn hs, M.ok_bind]
        refine M.sat_bind (grow_sat hn (kv0 := putI d.kv i 0) (kv1 := kv) (w1 := w') ⟨h1.pd, fun s' h' => h1.wt s' (List.mem_append_left _ h'), h1.old⟩ hs es (by omega) fun t ht => ?_) fun r ⟨c1, c2, c3⟩ => M.sat_ok ⟨⟨c1, ?_, c3⟩, ?_⟩
        · rcases h3 t ht with ⟨s', h', e⟩ | z
          · rcases List.mem_append.mp h' with q | q
            · exact .inl ⟨s', q, e⟩
            · simp at q; subst q; exact .inr (.inl e.symm)
          · exact .inr (.inr z)
        · show r.2.length ≤ r.1.kv.length
          omega
        · have := c1.pd.len
          show (ties.length - r.1.kv.length) + r.2.length < (ties.length - kv.length) + (w' ++ [s]).length
          rw [List.length_append, List.length_singleton]
          omega
      · obtain ⟨kv, w⟩ := r
        simp only at h1 h2 h3 he ⊢
        have hw : w = [] := by simpa using he
        subst hw
        refine ⟨h1.pd, h1.old, fun u v a hu => ?_⟩
        rcases h3 u hu with ⟨s', h', _⟩ | z
        · cases h'
        · exact z v a
      · by_cases e : t = (i : Int)
        · subst e; exact q2 _ (has_put.mpr (.inl rfl))
        · exact q2 _ (has_put.mpr (.inr (hb t ht (by omega))))
  · rw [rngL_len] at hb
    have all : ∀ t ∈ PTS ties, Has d.kv t := fun t ht => hb t ht (mem_PTS.mp ht).2
    have ev : ∀ t ∈ PTS ties, M.ofO (d.kv.lookup t) = .ok ((d.kv.lookup t).getD 0) := fun t ht => by
      obtain ⟨x, e⟩ := Option.isSome_iff_exists.mp (all t ht)
      rw [e]; rfl
    rw [M.ok_bind, M.comp_mapM (fun t => (d.kv.lookup t).getD 0) fun t ht => ev t ht, M.ok_bind, is_facing_eq g hn, M.ok_bind]
    have fq : ∀ q, Fac ties q → Fac ties ((rngL 0 ties.length).map fun t => (d.kv.lookup t).getD 0) := fun q hq => fac_forced hq (by rw [List.length_map, rngL_len]) fun t ht => by
      rw [gd_map (mem_PTS.mp ht).1 (mem_PTS.mp ht).2]
      obtain ⟨x, e⟩ := Option.isSome_iff_exists.mp (all t ht)
      rw [e]
      exact (hp.at e).2.2 q hq
    refine M.sat_if (fun h => M.sat_ok ?_) fun h => M.sat_ok ?_
    · constructor
      · intro z; cases z
      · intro z; exact absurd ⟨_, of_decide_eq_true h⟩ z
    · constructor
      · intro _ ⟨q, hq⟩; exact of_decide_eq_false h (fq q hq)
      · intro _; rfl
/-! groups of ties, and how many facings -/
theorem isort_R (n : Nat) : isort (rngL 0 n) = rngL 0 n := by
  refine (isort_eq (List.Perm.refl _) ?_).symm
  unfold rngL
  rw [List.pairwise_map]
  exact (List.pairwise_lt_range (n := n)).imp fun h => by omega
noncomputable abbrev GG (ties : List T4I) : List (List Int) := groupsOf (PTS ties) (JJ ties)
theorem tie_groups_eq {sides : List Int} (g : Good sides ties) (hn : ties.length ≤ 13) : p_tie_groups_m ⟨⟨sides⟩, ⟨ties⟩⟩ = .ok (GG ties) := by
  unfold p_tie_groups_m
  have hE := EE_len (ties := ties)
  have hq : 4 * ties.length * ties.length ≤ 4 * 13 * 13 := Nat.mul_le_mul (Nat.mul_le_mul (Nat.le_refl _) hn) hn
  have eJ : ((allSteps ties.length).flatMap fun s => (fols ties s).map fun a => (s.1, a.1)) = JJ ties := by
    unfold JJ EE
    rw [List.map_flatMap]
    congr 1
    funext s
    rw [List.map_map]
    rfl
  have hJ : (JJ ties).length ≤ 1000 := by unfold JJ; rw [List.length_map]; omega
  rw [every_eq sides (by omega), M.ok_bind, lc2_of (fols ties) (fun s a => (s.1, a.1)) (fun s hs => followers_eq g (by omega) (mem_allSteps.mp hs)) (fun _ _ _ _ => rfl) (by rw [eJ]; omega), eJ, M.ok_bind]
  show (M.rangeL 0 (ties.length : Int) >>= _) = _
  rw [rangeL_n _ (by omega), M.ok_bind]
  exact grouped_eq (rngL_nodup' 0 _) (by rw [rngL_len]; omega) hJ
theorem groups_map : GG ties = ((PTS ties).filter fun t => decide (rt ties t = t)).map fun p => (PTS ties).filter fun t => decide (rt ties t = p) := by
  unfold GG groupsOf firsts
  rw [isort_R]
  have e : ((PTS ties).filter fun p => decide (IsMin (PTS ties) (JJ ties) p)) = (PTS ties).filter fun t => decide (rt ties t = t) := List.filter_congr fun t ht => decide_eq_decide.mpr (rt_min ht).symm
  rw [e]
  refine List.map_congr_left fun p hp => ?_
  obtain ⟨h1, h2⟩ := List.mem_filter.mp hp
  have h2' : rt ties p = p := of_decide_eq_true h2
  unfold compOf
  rw [isort_R]
  refine List.filter_congr fun t ht => decide_eq_decide.mpr ?_
  rw [← rt_reach h1 ht, h2']
  exact ⟨fun e => e.symm, fun e => e.symm⟩
theorem groups_heads : (GG ties).length = heads (rt ties) ties.length := by rw [groups_map, List.length_map]; rfl
theorem heads_le (L : Int → Int) (m : Nat) : heads L m ≤ m := by
  unfold heads
  have := List.length_filter_le (fun t => decide (L t = t)) (rngL 0 m)
  rw [rngL_len] at this
  exact this
noncomputable instance decEx : Decidable (∃ q, Fac ties q) := Classical.propDecidable _
noncomputable def howMany (ties : List T4I) : Int := if decide (∃ q, Fac ties q) = true then ((2 ^ heads (rt ties) ties.length : Nat) : Int) else 0
theorem count_eq {sides : List Int} (g : Good sides ties) (hn : ties.length ≤ 13) : p_count_facings_m ⟨⟨sides⟩, ⟨ties⟩⟩ = .ok (howMany ties) := by
  unfold p_count_facings_m howMany
  obtain ⟨o, eo, ho⟩ := facing_sat g (by omega)
  rw [eo, M.ok_bind, M.ok_bind]
  by_cases h : ∃ q, Fac ties q
  · have hz : o.isNone = false := by
      rw [Bool.eq_false_iff]; exact fun z => ho.mp z h
    rw [hz, if_neg (by decide), decide_eq_true h, if_pos rfl, M.ok_bind, tie_groups_eq g hn, M.ok_bind]
    rw [M.fold_eq (1 : Int) (fun i => ((2 ^ i : Nat) : Int)) (by rfl) fun i x _ => ?_]
    · rw [M.ok_bind, groups_heads]
    · rw [M.ok_bind]
      congr 1
      rw [Nat.pow_succ]
      omega
  · rw [ho.mpr h, if_pos rfl, decide_eq_false h, if_neg (by decide)]
theorem okI {n : Nat} {xs : List Int} (h : xs.length ≤ 100000) : OkU (n + 2) (UD.toU xs) := .list (by rw [List.length_map]; exact h) fun d hd => by
  obtain ⟨x, _, rfl⟩ := List.mem_map.mp hd
  exact .int x
theorem okII {n : Nat} {xs : List (List Int)} (h : xs.length ≤ 100000) (h2 : ∀ x ∈ xs, x.length ≤ 100000) : OkU (n + 3) (UD.toU xs) := .list (by rw [List.length_map]; exact h) fun d hd => by
  obtain ⟨x, hx, rfl⟩ := List.mem_map.mp hd
  exact okI (h2 x hx)
theorem right_groups_eq {sides : List Int} (g : Good sides ties) (hn : ties.length ≤ 13) : l_right_groups_m ⟨⟨sides⟩, ⟨ties⟩⟩ ((PTS ties).map (rt ties)) (ties.length : Int) = .ok true := by
  unfold l_right_groups_m
  have lab : ∀ t ∈ PTS ties, M.ix ((PTS ties).map (rt ties)) t = .ok (rt ties t) := fun t ht => by
    rw [M.ix_getD 0 (mem_PTS.mp ht).1 (by rw [List.length_map, rngL_len]; exact (mem_PTS.mp ht).2)]
    congr 1
    exact gd_map (f := rt ties) (mem_PTS.mp ht).1 (mem_PTS.mp ht).2
  have hl : (GG ties).length ≤ 13 := by rw [groups_heads]; exact Nat.le_trans (heads_le _ _) hn
  have hm : ∀ x ∈ GG ties, x.length ≤ 13 := fun x hx => by
    rw [groups_map] at hx
    obtain ⟨p, _, rfl⟩ := List.mem_map.mp hx
    have := List.length_filter_le (fun t => decide (rt ties t = p)) (PTS ties)
    rw [rngL_len] at this
    omega
  have due : M.fold (fun (s2 : (List (List Int))) x3 =>
    ((M.ix ((PTS ties).map (rt ties)) x3) >>= fun t4 => (M.ok (decide (t4 = x3)))) >>= fun b8 => if b8 then
      M.push s2 ((M.ok (PTS ties)) >>= M.comp (fun x5 => ((M.ix ((PTS ties).map (rt ties)) x5) >>= fun t6 => (M.ok (decide (t6 = x3))))) (fun x5 => (M.ok x5))) >>= fun due_7 =>
        M.ok due_7
    else
      M.ok s2) [] (rngL 0 ties.length) = .ok (GG ties) := by
    rw [M.fold_eq [] (fun i => ((rngL 0 i).filter fun t => decide (rt ties t = t)).map fun p => (PTS ties).filter fun t => decide (rt ties t = p)) rfl fun i x hx => ?_]
    · rw [rngL_len, groups_map]
    · obtain ⟨hi, rfl⟩ := rngL_get hx
      rw [Int.zero_add]
      have him : (i : Int) ∈ PTS ties := mem_PTS.mpr ⟨by omega, by omega⟩
      have hlen := List.length_filter_le (fun t => decide (rt ties t = t)) (rngL 0 i)
      rw [rngL_len] at hlen
      have er : rngL 0 (i + 1) = rngL 0 i ++ [(i : Int)] := by unfold rngL; rw [List.range_succ, List.map_append]; simp
      rw [lab _ him, M.ok_bind, M.ok_bind, M.ok_bind, M.comp_filter (fun t => decide (rt ties t = (i : Int))) fun t ht => by rw [lab t ht]; rfl, er, List.filter_append]
      by_cases e : rt ties (i : Int) = i
      · rw [decide_eq_true e, if_pos rfl, M.push_small (by rw [List.length_map]; omega), M.ok_bind]
        simp [e]
      · rw [decide_eq_false e, if_neg (by decide)]
        simp [e]
  rw [M.ok_bind, M.rangeN (by omega), M.ok_bind, due, M.ok_bind, tie_groups_eq g hn, M.ok_bind]
  have e1 : l_same_m 9 (UD.toU (GG ties)) (UD.toU (GG ties)) = .ok true := same_refl (okII (by omega) fun x hx => by have := hm x hx; omega)
  rw [e1]
  simp only [M.calm_of_ok, M.ok_bind, Bool.not_true, if_neg Bool.false_ne_true]
  rw [show M.appAll (GG ties) (-1 : Int) = .ok ((GG ties).map fun x => x ++ [-1]) from M.asrt_pos fun x hx => Nat.lt_of_le_of_lt (hm x hx) (by decide)]
  simp only [M.ok_bind]
  rw [M.push_small (by rw [List.length_map]; omega)]
  simp only [M.ok_bind]
  exact e1
/-! the lists -/
theorem comp_ex {α β : Type} {f : α → M β} : ∀ {xs : List α}, (∀ x ∈ xs, ∃ y, f x = .ok y) → ∃ ys, M.comp (fun _ => .ok true) f xs = .ok ys
  | [], _ => ⟨[], rfl⟩
  | x :: xs, h => by
    obtain ⟨y, e⟩ := h x List.mem_cons_self
    obtain ⟨ys, es⟩ := comp_ex (xs := xs) fun z hz => h z (List.mem_cons_of_mem _ hz)
    refine ⟨y :: ys, ?_⟩
    simp only [M.comp]
    rw [e, es]
    simp [M.calm_of_ok]
theorem sat_comp {α β : Type} {f : α → M β} {xs : List α} {R : List β → Prop} (h : ∀ x ∈ xs, ∃ y, f x = .ok y) (hR : ∀ ys, R ys) : M.sat (M.comp (fun _ => .ok true) f xs) R := by
  obtain ⟨ys, e⟩ := comp_ex h
  exact ⟨ys, e, hR ys⟩
theorem rows_len (n : Nat) : (rows01 n).length = 2 ^ n := by
  induction n with
  | zero => rfl
  | succ n ih => rw [rows01, List.length_append, List.length_map, List.length_map, ih, Nat.pow_succ]; omega
theorem cat_s {α : Type} {xs ys : List α} (h : xs.length + ys.length ≤ 100000) : M.cat xs ys = .ok (xs ++ ys) := M.asrt_pos (Nat.le_trans h (by decide))
theorem rows_add {i : Nat} (hi : i ≤ 6) (x : Int) : M.comp (fun _ => (M.ok true)) (fun x4 => (M.cat x4 [x])) (rows01 i) = .ok ((rows01 i).map (· ++ [x])) :=
  M.comp_mapM (fun r => r ++ [x]) fun r hr => cat_s (by rw [(rows_at hr).1]; simp; omega)
theorem not_fac {r : List Int} {j : Nat} {x : Int} (h : r[j]? = some x) (hx : x ≠ 0 ∧ x ≠ 1) : ¬ Fac ties r := fun z => by
  have := z.2.1 x (List.mem_of_getElem? h)
  omega
theorem cut_last {α : Type} (xs : List α) : (cutL xs none (some (-(1 : Int)))) = xs.take (xs.length - 1) := by
  unfold cutL
  rw [HT.sIx_none, List.drop_zero]
  congr 1
  show (if (-(1 : Int)) < 0 then ((-(1 : Int)) + (xs.length : Int)).toNat else min (-(1 : Int)).toNat xs.length) - 0 = _
  rw [if_pos (by decide)]
  omega
noncomputable def nf (ties : List T4I) (R : List (List Int)) : Nat := (R.filter fun r => decide (Fac ties r)).length
theorem nf_snoc (R : List (List Int)) {r : List Int} (h : ¬ Fac ties r) : nf ties (R ++ [r]) = nf ties R := by
  unfold nf
  rw [List.filter_append, List.filter_cons, decide_eq_false h]
  simp
theorem lists_sat (d : List Int) (at_ : Int) (hn : ties.length ≤ 13) {F L : List Int} (hF : F.length = ties.length) (hL : L.length = ties.length) : M.sat (l_lists_m d at_ (ties.length : Int) F L) fun R => R.length ≤ 1000 ∧ (0 < ties.length → ties.length < 6 → nf ties R = nf ties (rows01 ties.length)) := by
  unfold l_lists_m
  have hr : M.range (ties.length : Int) = .ok (rngL 0 ties.length) := M.rangeN (by omega)
  have ixF : ∀ t ∈ rngL 0 ties.length, M.ix F t = .ok (gd F t) := fun t ht => M.ix_getD 0 (mem_PTS.mp ht).1 (by rw [hF]; exact (mem_PTS.mp ht).2)
  have ixL : ∀ t ∈ rngL 0 ties.length, M.ix L t = .ok (gd L t) := fun t ht => M.ix_getD 0 (mem_PTS.mp ht).1 (by rw [hL]; exact (mem_PTS.mp ht).2)
  rw [M.ok_bind]
  refine M.sat_bind (R1 := fun l => l.length ≤ 100 ∧ (ties.length < 6 → l = rows01 ties.length)) ?_ fun s ⟨hs, hs6⟩ => ?_
  · refine M.sat_if (fun h => ?_) fun h => ?_
    · have h6 : ties.length < 6 := by simp at h; omega
      rw [hr, M.ok_bind]
      refine M.sat_bind (M.sat_fold (fun i l => l = rows01 i) rfl fun i x l hx hl => ?_) fun l hl => M.sat_ok ?_
      · subst hl
        have hi := (rngL_get hx).1
        have h2 : 2 ^ i ≤ 2 ^ 5 := Nat.pow_le_pow_right (by decide) (by omega)
        rw [rows_add (by omega), M.ok_bind, rows_add (by omega), M.ok_bind, cat_s (by rw [List.length_map, List.length_map, rows_len]; omega)]
        exact M.sat_ok rfl
      · rw [rngL_len] at hl
        subst hl
        have h2 : 2 ^ ties.length ≤ 2 ^ 5 := Nat.pow_le_pow_right (by decide) (by omega)
        exact ⟨by rw [rows_len]; omega, fun _ => rfl⟩
    · have h6 : ¬ ties.length < 6 := by simp at h; omega
      have p0 := pick_range (d := d) (k := at_) (m := (ties.length : Int)) (by omega)
      rw [pick_eq, M.ok_bind, ixL _ (mem_PTS.mpr p0), M.ok_bind, pick_eq, M.ok_bind]
      simp only [hr, M.comp_map, M.ok_bind]
      refine M.sat_bind (M.sat_push (R := fun l => l.length = 5) (by simp) (sat_comp (fun t ht => ?_) fun ys => by simp)) fun l1 h1 => ?_
      · rw [ixF t ht, ixL t ht]; exact ⟨_, rfl⟩
      refine M.sat_bind (M.sat_push (R := fun l => l.length = 6) (by omega) (sat_comp (fun t ht => ?_) fun ys => by simp [h1])) fun l2 h2 => ?_
      · rw [ixF t ht]; exact ⟨_, rfl⟩
      refine M.sat_bind (M.sat_push (R := fun l => l.length = 7) (by omega) (sat_comp (fun t ht => ?_) fun ys => by simp [h2])) fun l3 h3 => M.sat_ok ⟨by omega, fun z => absurd z h6⟩
      · rw [pick_eq]; exact ⟨_, rfl⟩
  · have hr3 : M.range (3 : Int) = .ok (rngL 0 3) := M.range_ok (by decide) (by decide)
    rw [hr3, M.ok_bind]
    refine M.sat_bind (M.sat_fold (fun k l => l.length ≤ 100 + k ∧ (0 < ties.length → ties.length < 6 → nf ties l = nf ties (rows01 ties.length))) ⟨hs, fun _ h6 => by rw [hs6 h6]⟩ fun k x l hx ⟨h1, h2⟩ => ?_) fun l ⟨h1, h2⟩ => ?_
    · obtain ⟨hk, rfl⟩ := rngL_get hx
      rw [M.ok_bind]
      refine M.sat_bind (R1 := fun r => 0 < ties.length → ¬ Fac ties r) (M.sat_if (fun h => ?_) fun h => M.sat_ok fun z => ?_) fun r hr' => ?_
      · have h0 : 0 < ties.length := by simpa using h
        have p0 := pick_range (d := d) (k := (at_ + (20 : Int)) + (0 + (k : Int))) (m := (ties.length : Int)) (by omega)
        obtain ⟨v, hv, ev⟩ := M.ix_some (xs := ([(2 : Int), (-(1 : Int)), (100000000000000000000 : Int)])) (i := 0 + (k : Int)) (by omega) (by simp; omega)
        have hvm := List.mem_of_getElem? hv
        rw [pick_eq, M.ok_bind, ev, setIx_ok (j := (pick d ((at_ + (20 : Int)) + (0 + (k : Int))) ties.length).toNat) (by omega) (by omega), M.ok_bind]
        refine M.sat_ok fun _ => not_fac (j := (pick d ((at_ + (20 : Int)) + (0 + (k : Int))) ties.length).toNat) (x := v) (List.getElem?_set_self (by omega)) ?_
        simp at hvm
        omega
      · have := of_decide_eq_false h; omega
      · rw [M.push_small (by omega), M.ok_bind]
        exact M.sat_ok ⟨by simp; omega, fun a b => by rw [nf_snoc l (hr' a)]; exact h2 a b⟩
    · rw [rngL_len] at h1
      rw [cat_s (by simp; omega), M.ok_bind, cat_s (by simp; omega), M.ok_bind, M.ok_bind, M.ok_bind, M.ok_bind]
      rw [cat_s (by simp; omega)]
      refine M.sat_ok ⟨by simp; omega, fun a b => ?_⟩
      have e : l ++ [cutL F none (some (-(1 : Int))), F ++ [0], F ++ [1]] = ((l ++ [cutL F none (some (-(1 : Int)))]) ++ [F ++ [0]]) ++ [F ++ [1]] := by simp
      rw [e, nf_snoc, nf_snoc, nf_snoc]
      · exact h2 a b
      · intro z; have := z.1; rw [cut_last, List.length_take] at this; omega
      · intro z; have := z.1; simp at this; omega
      · intro z; have := z.1; simp at this; omega
/-! one web -/
theorem same_b (b : Bool) : l_same_m 9 (UD.toU b) (UD.toU b) = .ok true := same_refl (.bool b)
theorem same_i (x : Int) : l_same_m 9 (UD.toU x) (UD.toU x) = .ok true := same_refl (.int x)
theorem fac_nil (h : ties.length = 0) : Fac ties [] := ⟨h.symm, fun x hx => (nomatch hx), fun s a hE => by
  have := mem_PTS.mp (EE_pts hE).1
  omega⟩
theorem nf_take {R : List (List Int)} {i : Nat} {x : List Int} (h : R[i]? = some x) : nf ties (R.take (i + 1)) = nf ties (R.take i) + if decide (Fac ties x) = true then 1 else 0 := by
  have e : R.take (i + 1) = R.take i ++ [x] := by rw [List.take_add_one, h]; rfl
  unfold nf
  rw [e, List.filter_append, List.length_append]
  congr 1
  by_cases z : Fac ties x
  · simp [z]
  · simp [z]
theorem right_web_eq {sides : List Int} (g : Good sides ties) (hn : ties.length ≤ 13) (d : List Int) (at_ : Int) : l_right_web_m ⟨⟨sides⟩, ⟨ties⟩⟩ ties d at_ = .ok true := by
  refine M.sat_val ?_
  unfold l_right_web_m
  rw [M.ok_bind, table_eq (by omega), M.ok_bind, labels_eq (by omega), M.ok_bind]
  refine M.sat_bind (forced_sat (by omega)) fun F ⟨f1, f2, f3⟩ => ?_
  refine M.sat_bind (lists_sat d at_ hn f1 (by rw [List.length_map, rngL_len])) fun R ⟨r1, r2⟩ => ?_
  rw [M.ok_bind, M.ok_bind]
  have facF : Fac ties F ↔ ∃ q, Fac ties q := ⟨fun h => ⟨F, h⟩, fun ⟨q, hq⟩ => f3 q hq⟩
  refine M.sat_bind (M.sat_foldC (Q := fun c => c = .nx ((nf ties R : Nat) : Int)) (fun i (s : Int) => s = ((nf ties (R.take i) : Nat) : Int)) (by rfl) (fun i x s hx hs => ?_) fun s hs => ?_) fun c hc => ?_
  · subst hs
    rw [keeps_eq, M.ok_bind, M.ok_bind, is_facing_eq g (by omega)]
    simp only [M.ok_bind]
    rw [same_b]
    simp only [M.ok_bind, Bool.not_true, if_neg Bool.false_ne_true, decide_true]
    refine M.sat_if (fun h => ?_) fun h => ?_
    · refine M.sat_ok ?_
      show _ = _
      rw [nf_take hx, if_pos h]
      rfl
    · refine M.sat_ok ?_
      show _ = _
      rw [nf_take hx, if_neg (by rw [h]; decide)]
      rfl
  · rw [hs, List.take_length]
  · subst hc
    show M.sat (_ >>= _) _
    rw [is_facing_eq2 g (by omega), M.ok_bind, M.ok_bind, keeps_eq, M.ok_bind, M.ok_bind, same_b, M.ok_bind, M.ok_bind, if_neg (by decide)]
    refine M.sat_bind (R1 := fun s => (5 < ties.length → s = howMany ties) ∧ (¬ 5 < ties.length → s = ((nf ties R : Nat) : Int))) (M.sat_if (fun h => ?_) fun h => M.sat_ok ⟨fun z => ?_, fun _ => rfl⟩) fun s ⟨s1, s2⟩ => ?_
    · have h5 : 5 < ties.length := by have := of_decide_eq_true h; omega
      rw [M.ok_bind, M.ok_bind, M.rangeN (by omega), M.ok_bind]
      have lab : ∀ t ∈ PTS ties, M.ix ((PTS ties).map (rt ties)) t = .ok (rt ties t) := fun t ht => by
        rw [M.ix_getD 0 (mem_PTS.mp ht).1 (by rw [List.length_map, rngL_len]; exact (mem_PTS.mp ht).2)]
        congr 1
        exact gd_map (f := rt ties) (mem_PTS.mp ht).1 (mem_PTS.mp ht).2
      rw [M.fold_eq (if decide (Fac ties F) = true then (1 : Int) else 0) (fun i => (if decide (Fac ties F) = true then (1 : Int) else 0) * ((2 ^ heads (rt ties) i : Nat) : Int)) (by simp [heads, rngL]) fun i x hx => ?_]
      · rw [rngL_len, M.ok_bind]
        refine M.sat_ok ⟨fun _ => ?_, fun z => absurd h5 z⟩
        unfold howMany
        by_cases e : Fac ties F
        · rw [decide_eq_true e, if_pos rfl, decide_eq_true (facF.mp e), if_pos rfl]; omega
        · rw [decide_eq_false e, if_neg (by decide), decide_eq_false (fun z => e (facF.mpr z)), if_neg (by decide)]; omega
      · obtain ⟨hi, rfl⟩ := rngL_get hx
        rw [Int.zero_add, lab _ (mem_PTS.mpr ⟨by omega, by omega⟩), M.ok_bind, M.ok_bind, heads_succ]
        by_cases e : rt ties (i : Int) = i
        · rw [decide_eq_true e, if_pos rfl, if_pos e, M.ok_bind, Nat.pow_succ]
          congr 1
          generalize 2 ^ heads (rt ties) i = kk
          by_cases z : decide (Fac ties F) = true
          · rw [if_pos z]; omega
          · rw [if_neg z]; omega
        · rw [decide_eq_false e, if_neg (by decide), if_neg e]
          rfl
    · have := of_decide_eq_false h; omega
    · refine M.sat_bind (R1 := fun s => s = howMany ties) (M.sat_if (fun h => ?_) fun h => ?_) fun s3 hs3 => ?_
      · have h0 : ties.length = 0 := by have := of_decide_eq_true h; omega
        rw [M.ok_bind]
        refine M.sat_ok ?_
        unfold howMany
        rw [decide_eq_true ⟨[], fac_nil h0⟩, if_pos rfl, h0]
        simp [heads, rngL]
      · have h0 : 0 < ties.length := by have := of_decide_eq_false h; omega
        refine M.sat_ok ?_
        by_cases h5 : 5 < ties.length
        · exact s1 h5
        · rw [s2 h5, r2 h0 (by omega)]
          unfold howMany
          by_cases e : ∃ q, Fac ties q
          · obtain ⟨q, hq⟩ := e
            rw [decide_eq_true ⟨q, hq⟩, if_pos rfl]
            have := count_fac hq
            unfold nf
            rw [this]
          · rw [decide_eq_false e, if_neg (by decide)]
            have := count_none e
            unfold nf
            rw [this]
            rfl
      · subst hs3
        rw [count_eq g hn, M.ok_bind, M.ok_bind, same_i, M.ok_bind, if_pos rfl]
        exact ⟨true, right_groups_eq g hn, rfl⟩
end
/-! the draws -/
theorem faced_sat (d : List Int) {p t : Int} (hp0 : 1 ≤ p) (hp1 : p ≤ 100) (ht0 : 0 ≤ t) (ht1 : t ≤ 100) : M.sat (l_faced_m d p t) fun r => Good r.a r.b ∧ 1 ≤ r.a.length ∧ r.a.length ≤ p.toNat ∧ r.b.length ≤ t.toNat := by
  unfold l_faced_m
  simp only [M.ok_bind, pick_eq]
  have hm := pick_range (d := d) (k := 0) (m := p) (by omega)
  generalize pick d 0 p = many at hm
  rw [M.range_ok (by omega) (by omega), M.ok_bind]
  have menu : ∀ k : Int, ∃ x, M.ix ([2, 2, 3, 2, 1, 4] : List Int) (pick d k 6) = .ok x ∧ 1 ≤ x ∧ x ≤ 4 := fun k => by
    have hr := pick_range (d := d) (k := k) (m := 6) (by omega)
    generalize pick d k 6 = j at hr
    obtain ⟨x, hx, e⟩ := M.ix_some (xs := ([2, 2, 3, 2, 1, 4] : List Int)) hr.1 (by simpa using hr.2)
    refine ⟨x, e, ?_⟩
    have hmem := List.mem_of_getElem? hx
    simp at hmem
    omega
  refine M.sat_bind (M.sat_fold (fun i (s : List Int × List (Int × Int)) => s.1.length = i ∧ s.2.length = i ∧ (∀ x ∈ s.1, 1 ≤ x ∧ x ≤ 4) ∧ ∀ (j : Nat) c q, s.1[j]? = some c → s.2[j]? = some q → (0 ≤ q.1 ∧ q.1 < c) ∧ (0 ≤ q.2 ∧ q.2 < c)) ⟨rfl, rfl, fun x hx => (nomatch hx), fun j c q h => by simp at h⟩ fun i x s hx ⟨h1, h2, h3, h4⟩ => ?_) fun s ⟨h1, h2, h3, h4⟩ => ?_
  · obtain ⟨hi, rfl⟩ := rngL_get hx
    obtain ⟨c, ec, hc⟩ := menu ((2 : Int) + ((3 : Int) * (0 + (i : Int))))
    have r1 := pick_range (d := d) (k := (3 : Int) + ((3 : Int) * (0 + (i : Int)))) (m := c) (by omega)
    rw [ec, M.ok_bind, M.push_small (by omega), M.ok_bind, M.asrt_pos (by omega), M.ok_bind, M.push_small (by omega), M.ok_bind]
    refine M.sat_ok ⟨by simp [h1], by simp [h2], fun x hx => ?_, fun j c' q hj hq => ?_⟩
    · rcases List.mem_append.mp hx with k | k
      · exact h3 x k
      · simp at k; omega
    · by_cases hlt : j < i
      · rw [List.getElem?_append_left (by omega)] at hj hq
        exact h4 j c' q hj hq
      · have hle : j < (s.1 ++ [c]).length := (List.getElem?_eq_some_iff.mp hj).1
        simp at hle
        have e : j = i := by omega
        subst e
        have a1 : (s.1 ++ [c])[j]? = some c := by rw [List.getElem?_append_right (by omega), h1]; simp
        rw [a1] at hj
        cases hj
        have a2 : ∀ q' : Int × Int, (s.2 ++ [q'])[j]? = some q' := fun q' => by rw [List.getElem?_append_right (by omega), h2]; simp
        rw [a2] at hq
        cases hq
        exact ⟨r1, Int.emod_nonneg _ (by omega), Int.emod_lt_of_pos _ (by omega)⟩
  · rw [rngL_len] at h1 h2
    have hk := pick_range (d := d) (k := 1) (m := t + 1) (by omega)
    generalize pick d 1 (t + 1) = kk at hk
    rw [M.range_ok hk.1 (by omega), M.ok_bind]
    have hlen : (s.1.length : Int) = 1 + many := by omega
    have gate : ∀ j : Int, 0 ≤ j → j < 1 + many → ∃ q, M.ix s.2 j = .ok q ∧ (0 ≤ q.1 ∧ q.1 < s.1.getD j.toNat 0) ∧ (0 ≤ q.2 ∧ q.2 < s.1.getD j.toNat 0) := fun j h0 h1' => by
      obtain ⟨q, hq, eq⟩ := M.ix_some (xs := s.2) h0 (by omega)
      have hs : s.1[j.toNat]? = some (s.1.getD j.toNat 0) := by rw [List.getD_eq_getElem?_getD, List.getElem?_eq_getElem (by omega)]; rfl
      exact ⟨q, eq, h4 _ _ _ hs hq⟩
    refine M.sat_bind (M.sat_fold (fun i (r : List T4I × List Int) => Good s.1 r.1 ∧ r.1.length = i ∧ r.2.length = i) ⟨⟨h3, fun x hx => (nomatch hx)⟩, rfl, rfl⟩ fun i x r hx ⟨g, l1, l2⟩ => ?_) fun r ⟨g, l1, l2⟩ => M.sat_ok ⟨g, by show 1 ≤ s.1.length; omega, by show s.1.length ≤ _; omega, by show r.1.length ≤ _; rw [l1, rngL_len]; omega⟩
    have hi := (rngL_get hx).1
    generalize (((2 : Int) + ((3 : Int) * ((1 : Int) + many))) + ((3 : Int) * x)) = at_
    have r1 := pick_range (d := d) (k := at_) (m := 1 + many) (by omega)
    have r2 := pick_range (d := d) (k := at_ + 1) (m := 1 + many) (by omega)
    generalize pick d at_ (1 + many) = one at r1
    generalize pick d (at_ + 1) (1 + many) = other at r2
    obtain ⟨q1, e1, g1⟩ := gate one r1.1 r1.2
    obtain ⟨q2, e2, g2⟩ := gate other r2.1 r2.2
    rw [e1, e2]
    simp only [M.ok_bind]
    have sn : ∀ y : T4I, (0 ≤ y.a ∧ y.a < s.1.length ∧ 0 ≤ y.b ∧ y.b < s.1.getD y.a.toNat 0 ∧ 0 ≤ y.c ∧ y.c < s.1.length ∧ 0 ≤ y.d ∧ y.d < s.1.getD y.c.toNat 0) → Good s.1 (r.1 ++ [y]) := fun y hy => ⟨h3, fun z hz => by
      rcases List.mem_append.mp hz with k | k
      · exact g.ti z k
      · rw [List.mem_singleton] at k; subst k; exact hy⟩
    refine M.sat_if (fun _ => ?_) fun _ => ?_
    · rw [M.push_small (by omega), M.ok_bind, M.push_small (by omega), M.ok_bind]
      exact M.sat_ok ⟨sn _ ⟨r1.1, by show one < _; omega, g1.1.1, g1.1.2, r2.1, by show other < _; omega, g2.2.1, g2.2.2⟩, by simp; omega, by simp; omega⟩
    · rw [M.push_small (by omega), M.ok_bind, M.push_small (by omega), M.ok_bind]
      exact M.sat_ok ⟨sn _ ⟨r2.1, by show other < _; omega, g2.2.1, g2.2.2, r1.1, by show one < _; omega, g1.1.1, g1.1.2⟩, by simp; omega, by simp; omega⟩
theorem insert_at {α : Type} {xs : List α} {n : Int} {y : α} (h0 : 0 ≤ n) (h1 : n ≤ 100000) (hl : xs.length ≤ 100000) : M.insert xs (.ok n) (.ok y) = .ok (xs.take n.toNat ++ [y] ++ xs.drop n.toNat) := by
  unfold M.insert
  simp only [M.ok_bind]
  exact M.asrt_pos ⟨small1k hl, h0, Int.lt_of_le_of_lt h1 (by decide)⟩
theorem law_plain (s : List Int) (hs : s.length ≤ 63) : law_m ⟨s⟩ = .ok true := by
  refine M.sat_val ?_
  unfold law_m
  obtain ⟨c0, e0⟩ := cell_ok ⟨s⟩ (k := 0) (by decide)
  obtain ⟨c1, e1⟩ := cell_ok ⟨s⟩ (k := 1) (by decide)
  obtain ⟨d0, f0⟩ := draws_ok c0 (m := 60) (by decide) (by decide)
  obtain ⟨d1, f1⟩ := draws_ok c1 (m := 60) (by decide) (by decide)
  rw [e0, M.ok_bind, f0, M.ok_bind, e1, M.ok_bind, f1, M.ok_bind, pick_eq, M.ok_bind]
  generalize pick d1 0 8 = shape
  have web : ∀ {p t : Int}, 0 ≤ p → p ≤ 6 → 0 ≤ t → t ≤ 12 → M.sat (l_web_m d0 p t) fun r => Good r.1 r.2 ∧ r.1.length ≤ 7 ∧ r.2.length ≤ 12 := fun {p t} h1 h2 h3 h4 => M.sat_mono (web_sat d0 h1 (by omega) h3 (by omega)) fun r ⟨a, b, c⟩ => ⟨a, by omega, by omega⟩
  have fcd : ∀ {p t : Int}, 1 ≤ p → p ≤ 6 → 0 ≤ t → t ≤ 12 → M.sat (l_faced_m d0 p t) fun r => Good r.a r.b ∧ 1 ≤ r.a.length ∧ r.a.length ≤ 7 ∧ r.b.length ≤ 12 := fun {p t} h1 h2 h3 h4 => M.sat_mono (faced_sat d0 h1 (by omega) h3 (by omega)) fun r ⟨a, b, c, e⟩ => ⟨a, b, by omega, by omega⟩
  refine M.sat_bind (web (p := 5) (t := 5) (by decide) (by decide) (by decide) (by decide)) fun w0 h0 => ?_
  refine M.sat_bind (R1 := fun r => Good r.1 r.2 ∧ r.1.length ≤ 7 ∧ r.2.length ≤ 12) (M.sat_if (fun _ => M.sat_bind (fcd (p := 5) (t := 5) (by decide) (by decide) (by decide) (by decide)) fun r h => M.sat_ok ⟨h.1, h.2.2.1, h.2.2.2⟩) fun _ => M.sat_ok h0) fun w1 h1 => ?_
  refine M.sat_bind (R1 := fun r => Good r.1 r.2 ∧ r.1.length ≤ 7 ∧ r.2.length ≤ 12) (M.sat_if (fun _ => M.sat_bind (web (p := 6) (t := 12) (by decide) (by decide) (by decide) (by decide)) fun r h => M.sat_ok h) fun _ => M.sat_ok h1) fun w2 h2 => ?_
  refine M.sat_bind (R1 := fun r => Good r.1 r.2 ∧ r.1.length ≤ 7 ∧ r.2.length ≤ 12 ∧ (4 < shape → 1 ≤ r.1.length)) (M.sat_if (fun _ => M.sat_bind (fcd (p := 6) (t := 12) (by decide) (by decide) (by decide) (by decide)) fun r h => M.sat_ok ⟨h.1, h.2.2.1, h.2.2.2, fun _ => h.2.1⟩) fun hsh => M.sat_ok ⟨h2.1, h2.2.1, h2.2.2, fun z => absurd z (of_decide_eq_false hsh)⟩) fun w3 ⟨g3, l3, k3, n3⟩ => ?_
  refine M.sat_bind (R1 := fun ts => Good w3.1 ts ∧ ts.length ≤ 13) (M.sat_if (fun hsh => ?_) fun _ => M.sat_ok ⟨g3, by omega⟩) fun ts ⟨g, k⟩ => ?_
  · have h7 : shape = 7 := of_decide_eq_true hsh
    have hn := n3 (by omega)
    have r1 := pick_range (d := d1) (k := 1) (m := (w3.1.length : Int)) (by omega)
    have r2 := pick_range (d := d1) (k := 2) (m := (w3.1.length : Int)) (by omega)
    rw [pick_eq, M.ok_bind, pick_eq, M.ok_bind]
    generalize pick d1 1 (w3.1.length : Int) = one at r1
    generalize pick d1 2 (w3.1.length : Int) = other at r2
    rw [M.ix_getD 0 r1.1 r1.2, M.ok_bind, pick_eq, M.ok_bind, M.ix_getD 0 r2.1 r2.2, M.ok_bind, pick_eq, M.ok_bind, M.ok_bind]
    have b1 := g3.sd _ (getD_mem (xs := w3.1) r1.1 r1.2)
    have b2 := g3.sd _ (getD_mem (xs := w3.1) r2.1 r2.2)
    have r3 := pick_range (d := d1) (k := 3) (m := w3.1.getD one.toNat 0) (by omega)
    have r4 := pick_range (d := d1) (k := 4) (m := w3.1.getD other.toNat 0) (by omega)
    have r5 := pick_range (d := d1) (k := 5) (m := (w3.2.length : Int) + 1) (by omega)
    rw [pick_eq, insert_at r5.1 (by omega) (by omega), M.ok_bind]
    refine M.sat_ok ⟨⟨g3.sd, fun x hx => ?_⟩, by simp; omega⟩
    rcases List.mem_append.mp hx with hx | hx
    · rcases List.mem_append.mp hx with hx | hx
      · exact g3.ti x (List.mem_of_mem_take hx)
      · rw [List.mem_singleton] at hx
        subst hx
        exact ⟨r1.1, r1.2, r3.1, r3.2, r2.1, r2.2, r4.1, r4.2⟩
    · exact g3.ti x (List.mem_of_mem_drop hx)
  · have gf : Good w3.1 (ts.take (ts.length - 1)) := ⟨g.sd, fun x hx => g.ti x (List.mem_of_mem_take hx)⟩
    have g0 : Good [] ([] : List T4I) := ⟨fun x hx => (nomatch hx), fun x hx => (nomatch hx)⟩
    have ee : m_Web_empty_m () = .ok (⟨⟨[]⟩, ⟨[]⟩⟩ : WebM) := by rfl
    rw [init_ok g (by omega) (by omega), M.ok_bind, M.ok_bind, right_web_eq g k, M.ok_bind, M.ok_bind, cut_last, init_ok gf (by omega) (by rw [List.length_take]; omega), M.ok_bind, right_web_eq gf (by rw [List.length_take]; omega)]
    simp only [M.ok_bind, Bool.not_true, Bool.false_eq_true, if_false]
    rw [ee]
    simp only [M.ok_bind]
    rw [right_web_eq g0 (by simp)]
    simp only [M.ok_bind, Bool.not_true, Bool.false_eq_true, if_false, decide_true, Bool.and_self]
    exact M.sat_ok rfl
end K13

section
set_option maxHeartbeats 4000000
namespace K13
open PySem L2 G PM
/-! the text by places -/
def topS (i : Nat) : Stmt := PySem.Challenge.pw_comesapart_k13_facings_counted.main.body.getD i (.Pass ⟨0, 0, 0, 0⟩)
abbrev s_l_cell : Stmt := topS 23
abbrev N_l_cell : List Str := ["_law_script", "_law_k"]
theorem sc_l_cell : FnScope N_l_cell ["_law_script", "_law_k"] (defScope s_l_cell) := ⟨rfl, rfl, rfl, by decide +kernel, rfl, by decide +kernel, by decide +kernel⟩
abbrev s_l_draws : Stmt := topS 24
abbrev N_l_draws : List Str := ["_law_cell_here", "_law_many", "_law_rest", "_law_exact", "_law_mixed", "_law_draws_here", "_law_k"]
theorem sc_l_draws : FnScope N_l_draws ["_law_cell_here", "_law_many"] (defScope s_l_draws) := ⟨rfl, rfl, rfl, by decide +kernel, rfl, by decide +kernel, by decide +kernel⟩
abbrev s_l_pick : Stmt := topS 25
abbrev N_l_pick : List Str := ["_law_draws_here", "_law_k", "_law_many"]
theorem sc_l_pick : FnScope N_l_pick ["_law_draws_here", "_law_k", "_law_many"] (defScope s_l_pick) := ⟨rfl, rfl, rfl, by decide +kernel, rfl, by decide +kernel, by decide +kernel⟩
abbrev s_l_web : Stmt := topS 27
abbrev N_l_web : List Str := ["_law_draws_here", "_law_most_places", "_law_most_ties", "_law_menu", "_law_many", "_law_k", "_law_sides", "_law_ties", "_law_at", "_law_one", "_law_other", "_law_side"]
theorem sc_l_web : FnScope N_l_web ["_law_draws_here", "_law_most_places", "_law_most_ties"] (defScope s_l_web) := ⟨rfl, rfl, rfl, by decide +kernel, rfl, by decide +kernel, by decide +kernel⟩
abbrev s_l_faced : Stmt := topS 28
abbrev N_l_faced : List Str := ["_law_draws_here", "_law_most_places", "_law_most_ties", "_law_menu", "_law_many", "_law_sides", "_law_gates", "_law_k", "_law_count", "_law_out", "_law_ties", "_law_directions", "_law_at", "_law_one", "_law_other"]
theorem sc_l_faced : FnScope N_l_faced ["_law_draws_here", "_law_most_places", "_law_most_ties"] (defScope s_l_faced) := ⟨rfl, rfl, rfl, by decide +kernel, rfl, by decide +kernel, by decide +kernel⟩
abbrev s_p_check_end : Stmt := topS 14
abbrev N_p_check_end : List Str := ["sides", "place", "side"]
theorem sc_p_check_end : FnScope N_p_check_end ["sides", "place", "side"] (defScope s_p_check_end) := ⟨rfl, rfl, rfl, by decide +kernel, rfl, by decide +kernel, by decide +kernel⟩
abbrev s_m_WebX_initX : Stmt := (clsB (topS 15)).getD 3 (.Pass ⟨0, 0, 0, 0⟩)
abbrev N_m_WebX_initX : List Str := ["self", "sides", "ties", "place", "many", "one", "side", "other", "far_side"]
theorem sc_m_WebX_initX : FnScope N_m_WebX_initX ["self", "sides", "ties"] (defScope s_m_WebX_initX) := ⟨rfl, rfl, rfl, by decide +kernel, rfl, by decide +kernel, by decide +kernel⟩
abbrev s_l_table : Stmt := topS 29
abbrev N_l_table : List Str := ["_law_ties", "_law_table_here", "_law_tie", "_law_direction", "_law_place", "_law_side", "_law_found", "_law_near", "_law_back"]
theorem sc_l_table : FnScope N_l_table ["_law_ties"] (defScope s_l_table) := ⟨rfl, rfl, rfl, by decide +kernel, rfl, by decide +kernel, by decide +kernel⟩
abbrev s_l_labels : Stmt := topS 30
abbrev N_l_labels : List Str := ["_law_table_here", "_law_many", "_law_label", "_law_k", "_law_step", "_law_after", "_law_low"]
theorem sc_l_labels : FnScope N_l_labels ["_law_table_here", "_law_many"] (defScope s_l_labels) := ⟨rfl, rfl, rfl, by decide +kernel, rfl, by decide +kernel, by decide +kernel⟩
abbrev s_l_carried : Stmt := topS 32
abbrev N_l_carried : List Str := ["_law_table_here", "_law_directions", "_law_step", "_law_after"]
theorem sc_l_carried : FnScope N_l_carried ["_law_table_here", "_law_directions"] (defScope s_l_carried) := ⟨rfl, rfl, rfl, by decide +kernel, rfl, by decide +kernel, by decide +kernel⟩
abbrev s_l_forced : Stmt := topS 33
abbrev N_l_forced : List Str := ["_law_table_here", "_law_many", "_law_k", "_law_directions", "_law_start"]
theorem sc_l_forced : FnScope N_l_forced ["_law_table_here", "_law_many"] (defScope s_l_forced) := ⟨rfl, rfl, rfl, by decide +kernel, rfl, by decide +kernel, by decide +kernel⟩
abbrev s_l_lists : Stmt := topS 34
abbrev N_l_lists : List Str := ["_law_draws_here", "_law_at", "_law_many", "_law_forced_here", "_law_label", "_law_lists_here", "_law_k", "_law_group", "_law_one", "_law_spoilt", "_law_direction", "_law_tie", "_law_row"]
theorem sc_l_lists : FnScope N_l_lists ["_law_draws_here", "_law_at", "_law_many", "_law_forced_here", "_law_label"] (defScope s_l_lists) := ⟨rfl, rfl, rfl, by decide +kernel, rfl, by decide +kernel, by decide +kernel⟩
abbrev s_l_keeps : Stmt := topS 31
abbrev N_l_keeps : List Str := ["_law_table_here", "_law_many", "_law_directions", "_law_direction", "_law_step", "_law_after"]
theorem sc_l_keeps : FnScope N_l_keeps ["_law_table_here", "_law_many", "_law_directions"] (defScope s_l_keeps) := ⟨rfl, rfl, rfl, by decide +kernel, rfl, by decide +kernel, by decide +kernel⟩
abbrev s_p_every_step : Stmt := topS 9
abbrev N_p_every_step : List Str := ["web", "tie", "direction"]
theorem sc_p_every_step : FnScope N_p_every_step ["web"] (defScope s_p_every_step) := ⟨rfl, rfl, rfl, by decide +kernel, rfl, by decide +kernel, by decide +kernel⟩
abbrev s_m_Web_back : Stmt := (clsB (topS 15)).getD 5 (.Pass ⟨0, 0, 0, 0⟩)
abbrev N_m_Web_back : List Str := ["step"]
theorem sc_m_Web_back : FnScope N_m_Web_back ["step"] (defScope s_m_Web_back) := ⟨rfl, rfl, rfl, by decide +kernel, rfl, by decide +kernel, by decide +kernel⟩
abbrev s_m_Web_tail : Stmt := (clsB (topS 15)).getD 7 (.Pass ⟨0, 0, 0, 0⟩)
abbrev N_m_Web_tail : List Str := ["self", "step", "tie", "direction", "one", "side", "other", "far_side"]
theorem sc_m_Web_tail : FnScope N_m_Web_tail ["self", "step"] (defScope s_m_Web_tail) := ⟨rfl, rfl, rfl, by decide +kernel, rfl, by decide +kernel, by decide +kernel⟩
abbrev s_m_Web_head : Stmt := (clsB (topS 15)).getD 8 (.Pass ⟨0, 0, 0, 0⟩)
abbrev N_m_Web_head : List Str := ["self", "step"]
theorem sc_m_Web_head : FnScope N_m_Web_head ["self", "step"] (defScope s_m_Web_head) := ⟨rfl, rfl, rfl, by decide +kernel, rfl, by decide +kernel, by decide +kernel⟩
abbrev s_m_WebX_containsX : Stmt := (clsB (topS 15)).getD 11 (.Pass ⟨0, 0, 0, 0⟩)
abbrev N_m_WebX_containsX : List Str := ["self", "place"]
theorem sc_m_WebX_containsX : FnScope N_m_WebX_containsX ["self", "place"] (defScope s_m_WebX_containsX) := ⟨rfl, rfl, rfl, by decide +kernel, rfl, by decide +kernel, by decide +kernel⟩
abbrev s_m_Web_steps_from : Stmt := (clsB (topS 15)).getD 9 (.Pass ⟨0, 0, 0, 0⟩)
abbrev N_m_Web_steps_from : List Str := ["self", "place", "found", "tie", "one", "_", "other"]
theorem sc_m_Web_steps_from : FnScope N_m_Web_steps_from ["self", "place"] (defScope s_m_Web_steps_from) := ⟨rfl, rfl, rfl, by decide +kernel, rfl, by decide +kernel, by decide +kernel⟩
abbrev s_p_followers : Stmt := topS 10
abbrev N_p_followers : List Str := ["web", "step", "place", "side", "after"]
theorem sc_p_followers : FnScope N_p_followers ["web", "step"] (defScope s_p_followers) := ⟨rfl, rfl, rfl, by decide +kernel, rfl, by decide +kernel, by decide +kernel⟩
abbrev s_p_is_facing : Stmt := topS 17
abbrev N_p_is_facing : List Str := ["web", "directions", "direction", "step", "along", "tie"]
theorem sc_p_is_facing : FnScope N_p_is_facing ["web", "directions"] (defScope s_p_is_facing) := ⟨rfl, rfl, rfl, by decide +kernel, rfl, by decide +kernel, by decide +kernel⟩
abbrev s_l_same : Stmt := topS 26
abbrev N_l_same : List Str := ["_law_told", "_law_due", "_law_k"]
theorem sc_l_same : FnScope N_l_same ["_law_told", "_law_due"] (defScope s_l_same) := ⟨rfl, rfl, rfl, by decide +kernel, rfl, by decide +kernel, by decide +kernel⟩
abbrev s_p_steps_alike : Stmt := topS 18
abbrev N_p_steps_alike : List Str := ["web", "step", "after"]
theorem sc_p_steps_alike : FnScope N_p_steps_alike ["web", "step"] (defScope s_p_steps_alike) := ⟨rfl, rfl, rfl, by decide +kernel, rfl, by decide +kernel, by decide +kernel⟩
abbrev s_p_facing : Stmt := topS 19
abbrev N_p_facing : List Str := ["web", "directions", "start", "waiting", "step", "tie", "direction", "found"]
theorem sc_p_facing : FnScope N_p_facing ["web"] (defScope s_p_facing) := ⟨rfl, rfl, rfl, by decide +kernel, rfl, by decide +kernel, by decide +kernel⟩
abbrev s_p_grouped : Stmt := topS 12
abbrev N_p_grouped : List Str := ["points", "ties", "point", "near", "one", "other", "groups", "seen", "group", "waiting", "member"]
theorem sc_p_grouped : FnScope N_p_grouped ["points", "ties"] (defScope s_p_grouped) := ⟨rfl, rfl, rfl, by decide +kernel, rfl, by decide +kernel, by decide +kernel⟩
abbrev s_p_tie_groups : Stmt := topS 20
abbrev N_p_tie_groups : List Str := ["web", "joined", "step", "after"]
theorem sc_p_tie_groups : FnScope N_p_tie_groups ["web"] (defScope s_p_tie_groups) := ⟨rfl, rfl, rfl, by decide +kernel, rfl, by decide +kernel, by decide +kernel⟩
abbrev s_p_count_facings : Stmt := topS 21
abbrev N_p_count_facings : List Str := ["web", "count", "_"]
theorem sc_p_count_facings : FnScope N_p_count_facings ["web"] (defScope s_p_count_facings) := ⟨rfl, rfl, rfl, by decide +kernel, rfl, by decide +kernel, by decide +kernel⟩
abbrev s_l_right_groups : Stmt := topS 35
abbrev N_l_right_groups : List Str := ["_law_web_here", "_law_label", "_law_many", "_law_due", "_law_low", "_law_told", "_law_group", "_law_tie"]
theorem sc_l_right_groups : FnScope N_l_right_groups ["_law_web_here", "_law_label", "_law_many"] (defScope s_l_right_groups) := ⟨rfl, rfl, rfl, by decide +kernel, rfl, by decide +kernel, by decide +kernel⟩
abbrev s_l_right_web : Stmt := topS 36
abbrev N_l_right_web : List Str := ["_law_web_here", "_law_ties", "_law_draws_here", "_law_at", "_law_many", "_law_table_here", "_law_label", "_law_forced_here", "_law_lists_here", "_law_count", "_law_row", "_law_due", "_law_passed", "_law_tie"]
theorem sc_l_right_web : FnScope N_l_right_web ["_law_web_here", "_law_ties", "_law_draws_here", "_law_at"] (defScope s_l_right_web) := ⟨rfl, rfl, rfl, by decide +kernel, rfl, by decide +kernel, by decide +kernel⟩
abbrev s_m_Web_empty : Stmt := (clsB (topS 15)).getD 4 (.Pass ⟨0, 0, 0, 0⟩)
abbrev N_m_Web_empty : List Str := ["cls"]
theorem sc_m_Web_empty : FnScope N_m_Web_empty ["cls"] (defScope s_m_Web_empty) := ⟨rfl, rfl, rfl, by decide +kernel, rfl, by decide +kernel, by decide +kernel⟩
abbrev s_law : Stmt := topS 37
abbrev N_law : List Str := ["_law_script", "_law_draws_here", "_law_extra", "_law_shape", "_law_sides", "_law_ties", "_law_directions", "_law_one", "_law_other", "_law_tie", "_law_web_here", "_law_fewer"]
theorem sc_law : FnScope N_law ["_law_script"] (defScope s_law) := ⟨rfl, rfl, rfl, by decide +kernel, rfl, by decide +kernel, by decide +kernel⟩
/-- what the top has written -/
structure Txt (K : PySem.W.Frag) (mg : Str → Option Value) where
  A : CA3
  b_abs : mg "abs" = none
  b_all : mg "all" = none
  b_bool : mg "bool" = none
  b_enumerate : mg "enumerate" = none
  b_int : mg "int" = none
  b_isinstance : mg "isinstance" = none
  b_len : mg "len" = none
  b_list : mg "list" = none
  b_min : mg "min" = none
  b_range : mg "range" = none
  b_set : mg "set" = none
  b_sorted : mg "sorted" = none
  b_str : mg "str" = none
  b_tuple : mg "tuple" = none
  g_BadSides : mg "BadSides" = some (.ref (A.tx .BadSides))
  g_TooLarge : mg "TooLarge" = some (.ref (A.tx .TooLarge))
  g_UnknownPlace : mg "UnknownPlace" = some (.ref (A.tx .UnknownPlace))
  g_UnknownSide : mg "UnknownSide" = some (.ref (A.tx .UnknownSide))
  g_UnknownTie : mg "UnknownTie" = some (.ref (A.tx .UnknownTie))
  g_Web : mg "Web" = some (.ref (A.ob .Web))
  c_Web : Cls K (A.ob .Web)
  n_Web_sides : NoAttr K (A.ob .Web) "sides"
  n_Web_ties : NoAttr K (A.ob .Web) "ties"
  u_Web_MOST_PLACES : Value
  k_Web_MOST_PLACES : Con K (A.ob .Web) "MOST_PLACES" (.int 200) u_Web_MOST_PLACES
  u_Web_MOST_SIDES : Value
  k_Web_MOST_SIDES : Con K (A.ob .Web) "MOST_SIDES" (.int 4) u_Web_MOST_SIDES
  u_Web_MOST_TIES : Value
  k_Web_MOST_TIES : Con K (A.ob .Web) "MOST_TIES" (.int 300) u_Web_MOST_TIES
  mv_Web : Value
  cr_Web : ClX.CRead K (A.ob .Web) mv_Web
  a_l_cell : Addr
  f_l_cell : FuncData
  F_l_cell : Fun K "_law_cell" "_law_cell" s_l_cell a_l_cell f_l_cell
  d_l_cell : Binds K f_l_cell ["_law_script", "_law_k"] []
  g_l_cell : mg "_law_cell" = some (.ref a_l_cell)
  a_l_draws : Addr
  f_l_draws : FuncData
  F_l_draws : Fun K "_law_draws" "_law_draws" s_l_draws a_l_draws f_l_draws
  d_l_draws : Binds K f_l_draws ["_law_cell_here", "_law_many"] []
  g_l_draws : mg "_law_draws" = some (.ref a_l_draws)
  a_l_pick : Addr
  f_l_pick : FuncData
  F_l_pick : Fun K "_law_pick" "_law_pick" s_l_pick a_l_pick f_l_pick
  d_l_pick : Binds K f_l_pick ["_law_draws_here", "_law_k", "_law_many"] []
  g_l_pick : mg "_law_pick" = some (.ref a_l_pick)
  a_l_web : Addr
  f_l_web : FuncData
  F_l_web : Fun K "_law_web" "_law_web" s_l_web a_l_web f_l_web
  d_l_web : Binds K f_l_web ["_law_draws_here", "_law_most_places", "_law_most_ties"] []
  g_l_web : mg "_law_web" = some (.ref a_l_web)
  a_l_faced : Addr
  f_l_faced : FuncData
  F_l_faced : Fun K "_law_faced" "_law_faced" s_l_faced a_l_faced f_l_faced
  d_l_faced : Binds K f_l_faced ["_law_draws_here", "_law_most_places", "_law_most_ties"] []
  g_l_faced : mg "_law_faced" = some (.ref a_l_faced)
  a_p_check_end : Addr
  f_p_check_end : FuncData
  F_p_check_end : Fun K "check_end" "check_end" s_p_check_end a_p_check_end f_p_check_end
  d_p_check_end : Binds K f_p_check_end ["sides", "place", "side"] []
  g_p_check_end : mg "check_end" = some (.ref a_p_check_end)
  a_m_WebX_initX : Addr
  f_m_WebX_initX : FuncData
  F_m_WebX_initX : Fun K "__init__" "Web.__init__" s_m_WebX_initX a_m_WebX_initX f_m_WebX_initX
  d_m_WebX_initX : Binds K f_m_WebX_initX ["self", "sides", "ties"] []
  mk_Web : Mk K (A.ob .Web) a_m_WebX_initX
  a_l_table : Addr
  f_l_table : FuncData
  F_l_table : Fun K "_law_table" "_law_table" s_l_table a_l_table f_l_table
  d_l_table : Binds K f_l_table ["_law_ties"] []
  g_l_table : mg "_law_table" = some (.ref a_l_table)
  a_l_labels : Addr
  f_l_labels : FuncData
  F_l_labels : Fun K "_law_labels" "_law_labels" s_l_labels a_l_labels f_l_labels
  d_l_labels : Binds K f_l_labels ["_law_table_here", "_law_many"] []
  g_l_labels : mg "_law_labels" = some (.ref a_l_labels)
  a_l_carried : Addr
  f_l_carried : FuncData
  F_l_carried : Fun K "_law_carried" "_law_carried" s_l_carried a_l_carried f_l_carried
  d_l_carried : Binds K f_l_carried ["_law_table_here", "_law_directions"] []
  g_l_carried : mg "_law_carried" = some (.ref a_l_carried)
  a_l_forced : Addr
  f_l_forced : FuncData
  F_l_forced : Fun K "_law_forced" "_law_forced" s_l_forced a_l_forced f_l_forced
  d_l_forced : Binds K f_l_forced ["_law_table_here", "_law_many"] []
  g_l_forced : mg "_law_forced" = some (.ref a_l_forced)
  a_l_lists : Addr
  f_l_lists : FuncData
  F_l_lists : Fun K "_law_lists" "_law_lists" s_l_lists a_l_lists f_l_lists
  d_l_lists : Binds K f_l_lists ["_law_draws_here", "_law_at", "_law_many", "_law_forced_here", "_law_label"] []
  g_l_lists : mg "_law_lists" = some (.ref a_l_lists)
  a_l_keeps : Addr
  f_l_keeps : FuncData
  F_l_keeps : Fun K "_law_keeps" "_law_keeps" s_l_keeps a_l_keeps f_l_keeps
  d_l_keeps : Binds K f_l_keeps ["_law_table_here", "_law_many", "_law_directions"] []
  g_l_keeps : mg "_law_keeps" = some (.ref a_l_keeps)
  a_p_every_step : Addr
  f_p_every_step : FuncData
  F_p_every_step : Fun K "every_step" "every_step" s_p_every_step a_p_every_step f_p_every_step
  d_p_every_step : Binds K f_p_every_step ["web"] []
  g_p_every_step : mg "every_step" = some (.ref a_p_every_step)
  a_m_Web_back : Addr
  f_m_Web_back : FuncData
  F_m_Web_back : Fun K "back" "Web.back" s_m_Web_back a_m_Web_back f_m_Web_back
  d_m_Web_back : Binds K f_m_Web_back ["step"] []
  mc_Web : Value
  q_m_Web_back : Addr
  sm_m_Web_back : SMet K (A.ob .Web) mc_Web "back" q_m_Web_back a_m_Web_back
  a_m_Web_tail : Addr
  f_m_Web_tail : FuncData
  F_m_Web_tail : Fun K "tail" "Web.tail" s_m_Web_tail a_m_Web_tail f_m_Web_tail
  d_m_Web_tail : Binds K f_m_Web_tail ["self", "step"] []
  me_m_Web_tail : Meth K (A.ob .Web) "tail" a_m_Web_tail
  a_m_Web_head : Addr
  f_m_Web_head : FuncData
  F_m_Web_head : Fun K "head" "Web.head" s_m_Web_head a_m_Web_head f_m_Web_head
  d_m_Web_head : Binds K f_m_Web_head ["self", "step"] []
  me_m_Web_head : Meth K (A.ob .Web) "head" a_m_Web_head
  a_m_WebX_containsX : Addr
  f_m_WebX_containsX : FuncData
  F_m_WebX_containsX : Fun K "__contains__" "Web.__contains__" s_m_WebX_containsX a_m_WebX_containsX f_m_WebX_containsX
  d_m_WebX_containsX : Binds K f_m_WebX_containsX ["self", "place"] []
  me_m_WebX_containsX : Meth K (A.ob .Web) "__contains__" a_m_WebX_containsX
  a_m_Web_steps_from : Addr
  f_m_Web_steps_from : FuncData
  F_m_Web_steps_from : Fun K "steps_from" "Web.steps_from" s_m_Web_steps_from a_m_Web_steps_from f_m_Web_steps_from
  d_m_Web_steps_from : Binds K f_m_Web_steps_from ["self", "place"] []
  me_m_Web_steps_from : Meth K (A.ob .Web) "steps_from" a_m_Web_steps_from
  a_p_followers : Addr
  f_p_followers : FuncData
  F_p_followers : Fun K "followers" "followers" s_p_followers a_p_followers f_p_followers
  d_p_followers : Binds K f_p_followers ["web", "step"] []
  g_p_followers : mg "followers" = some (.ref a_p_followers)
  a_p_is_facing : Addr
  f_p_is_facing : FuncData
  F_p_is_facing : Fun K "is_facing" "is_facing" s_p_is_facing a_p_is_facing f_p_is_facing
  d_p_is_facing : Binds K f_p_is_facing ["web", "directions"] []
  g_p_is_facing : mg "is_facing" = some (.ref a_p_is_facing)
  a_l_same : Addr
  f_l_same : FuncData
  F_l_same : Fun K "_law_same" "_law_same" s_l_same a_l_same f_l_same
  d_l_same : Binds K f_l_same ["_law_told", "_law_due"] []
  g_l_same : mg "_law_same" = some (.ref a_l_same)
  a_p_steps_alike : Addr
  f_p_steps_alike : FuncData
  F_p_steps_alike : Fun K "steps_alike" "steps_alike" s_p_steps_alike a_p_steps_alike f_p_steps_alike
  d_p_steps_alike : Binds K f_p_steps_alike ["web", "step"] []
  g_p_steps_alike : mg "steps_alike" = some (.ref a_p_steps_alike)
  a_p_facing : Addr
  f_p_facing : FuncData
  F_p_facing : Fun K "facing" "facing" s_p_facing a_p_facing f_p_facing
  d_p_facing : Binds K f_p_facing ["web"] []
  g_p_facing : mg "facing" = some (.ref a_p_facing)
  a_p_grouped : Addr
  f_p_grouped : FuncData
  F_p_grouped : Fun K "grouped" "grouped" s_p_grouped a_p_grouped f_p_grouped
  d_p_grouped : Binds K f_p_grouped ["points", "ties"] []
  g_p_grouped : mg "grouped" = some (.ref a_p_grouped)
  a_p_tie_groups : Addr
  f_p_tie_groups : FuncData
  F_p_tie_groups : Fun K "tie_groups" "tie_groups" s_p_tie_groups a_p_tie_groups f_p_tie_groups
  d_p_tie_groups : Binds K f_p_tie_groups ["web"] []
  g_p_tie_groups : mg "tie_groups" = some (.ref a_p_tie_groups)
  a_p_count_facings : Addr
  f_p_count_facings : FuncData
  F_p_count_facings : Fun K "count_facings" "count_facings" s_p_count_facings a_p_count_facings f_p_count_facings
  d_p_count_facings : Binds K f_p_count_facings ["web"] []
  g_p_count_facings : mg "count_facings" = some (.ref a_p_count_facings)
  a_l_right_groups : Addr
  f_l_right_groups : FuncData
  F_l_right_groups : Fun K "_law_right_groups" "_law_right_groups" s_l_right_groups a_l_right_groups f_l_right_groups
  d_l_right_groups : Binds K f_l_right_groups ["_law_web_here", "_law_label", "_law_many"] []
  g_l_right_groups : mg "_law_right_groups" = some (.ref a_l_right_groups)
  a_l_right_web : Addr
  f_l_right_web : FuncData
  F_l_right_web : Fun K "_law_right_web" "_law_right_web" s_l_right_web a_l_right_web f_l_right_web
  d_l_right_web : Binds K f_l_right_web ["_law_web_here", "_law_ties", "_law_draws_here", "_law_at"] []
  g_l_right_web : mg "_law_right_web" = some (.ref a_l_right_web)
  a_m_Web_empty : Addr
  f_m_Web_empty : FuncData
  F_m_Web_empty : Fun K "empty" "Web.empty" s_m_Web_empty a_m_Web_empty f_m_Web_empty
  d_m_Web_empty : Binds K f_m_Web_empty ["cls"] []
  q_m_Web_empty : Addr
  cm_m_Web_empty : CMetE K (A.ob .Web) mv_Web "empty" q_m_Web_empty a_m_Web_empty
  a_law : Addr
  f_law : FuncData
  F_law : Fun K "law" "law" s_law a_law f_law
  d_law : Binds K f_law ["_law_script"] []
  g_law : mg "law" = some (.ref a_law)
  i_BadSides : Addr
  fx_BadSides : FuncData
  x_BadSides : XCls K (A.tx .BadSides) i_BadSides
  dx_BadSides : Binds K fx_BadSides ["self", "place"] []
  i_TooLarge : Addr
  fx_TooLarge : FuncData
  x_TooLarge : XCls K (A.tx .TooLarge) i_TooLarge
  dx_TooLarge : Binds K fx_TooLarge ["self", "limit"] []
  i_UnknownPlace : Addr
  fx_UnknownPlace : FuncData
  x_UnknownPlace : XCls K (A.tx .UnknownPlace) i_UnknownPlace
  dx_UnknownPlace : Binds K fx_UnknownPlace ["self", "place"] []
  i_UnknownSide : Addr
  fx_UnknownSide : FuncData
  x_UnknownSide : XCls K (A.tx .UnknownSide) i_UnknownSide
  dx_UnknownSide : Binds K fx_UnknownSide ["self", "place", "side"] []
  i_UnknownTie : Addr
  fx_UnknownTie : FuncData
  x_UnknownTie : XCls K (A.tx .UnknownTie) i_UnknownTie
  dx_UnknownTie : Binds K fx_UnknownTie ["self", "tie"] []
theorem hu64 {A : Around} {k : Nat} (hr : Room k A) : A.units + 64 < cLine := by have := hr.un; omega
def sp_l_cell (C : GCtx) (A : CA3) : Sp := fun vs H Q E => ∃ script : (Sq Int), ∃ k : Int, (l_cell_m script k).nb ∧ FnX C [.val (dSq (d := dInt)) script, .val dInt k] (fun c => ∃ r, c = .val dInt r ∧ (l_cell_m script k) = .ok r) (fun x => ∃ px, (l_cell_m script k) = .exc px ∧ x = px.x A.tx) vs H Q E
theorem sp_l_cell_len {C : GCtx} {A : CA3} {vs H Q E} (h : sp_l_cell C A vs H Q E) : vs.length = 2 := by obtain ⟨_, _, _, h⟩ := h; exact h.len
theorem hs_l_cell {C : GCtx} {A : CA3} : ∀ script k, (l_cell_m script k).nb → SpX C (sp_l_cell C A) [.val (dSq (d := dInt)) script, .val dInt k] (fun c => ∃ r, c = .val dInt r ∧ (l_cell_m script k) = .ok r) (fun x => ∃ px, (l_cell_m script k) = .exc px ∧ x = px.x A.tx) := fun script k nb vs H Q E h => ⟨script, k, nb, h⟩
def sp_l_draws (C : GCtx) (A : CA3) : Sp := fun vs H Q E => ∃ cell_here : Int, ∃ many : Int, (l_draws_m cell_here many).nb ∧ FnX C [.val dInt cell_here, .val dInt many] (fun c => ∃ r, c = .own (dList (d := dInt)) (oList (d := dInt)) none r ∧ (l_draws_m cell_here many) = .ok r) (fun x => ∃ px, (l_draws_m cell_here many) = .exc px ∧ x = px.x A.tx) vs H Q E
theorem sp_l_draws_len {C : GCtx} {A : CA3} {vs H Q E} (h : sp_l_draws C A vs H Q E) : vs.length = 2 := by obtain ⟨_, _, _, h⟩ := h; exact h.len
theorem hs_l_draws {C : GCtx} {A : CA3} : ∀ cell_here many, (l_draws_m cell_here many).nb → SpX C (sp_l_draws C A) [.val dInt cell_here, .val dInt many] (fun c => ∃ r, c = .own (dList (d := dInt)) (oList (d := dInt)) none r ∧ (l_draws_m cell_here many) = .ok r) (fun x => ∃ px, (l_draws_m cell_here many) = .exc px ∧ x = px.x A.tx) := fun cell_here many nb vs H Q E h => ⟨cell_here, many, nb, h⟩
def sp_l_pick (C : GCtx) (A : CA3) : Sp := fun vs H Q E => ∃ draws_here : (List Int), ∃ k : Int, ∃ many : Int, (l_pick_m draws_here k many).nb ∧ FnX C [.val (dList (d := dInt)) draws_here, .val dInt k, .val dInt many] (fun c => ∃ r, c = .val dInt r ∧ (l_pick_m draws_here k many) = .ok r) (fun x => ∃ px, (l_pick_m draws_here k many) = .exc px ∧ x = px.x A.tx) vs H Q E
theorem sp_l_pick_len {C : GCtx} {A : CA3} {vs H Q E} (h : sp_l_pick C A vs H Q E) : vs.length = 3 := by obtain ⟨_, _, _, _, h⟩ := h; exact h.len
theorem hs_l_pick {C : GCtx} {A : CA3} : ∀ draws_here k many, (l_pick_m draws_here k many).nb → SpX C (sp_l_pick C A) [.val (dList (d := dInt)) draws_here, .val dInt k, .val dInt many] (fun c => ∃ r, c = .val dInt r ∧ (l_pick_m draws_here k many) = .ok r) (fun x => ∃ px, (l_pick_m draws_here k many) = .exc px ∧ x = px.x A.tx) := fun draws_here k many nb vs H Q E h => ⟨draws_here, k, many, nb, h⟩
def sp_l_web (C : GCtx) (A : CA3) : Sp := fun vs H Q E => ∃ draws_here : (List Int), ∃ most_places : Int, ∃ most_ties : Int, (l_web_m draws_here most_places most_ties).nb ∧ FnX C [.val (dList (d := dInt)) draws_here, .val dInt most_places, .val dInt most_ties] (fun c => ∃ r, c = .own (dPair (d1 := (dList (d := dInt))) (d2 := (dList (d := (dT4 (d1 := dInt) (d2 := dInt) (d3 := dInt) (d4 := dInt)))))) (oPair (oList (d := dInt)) (oList (d := (dT4 (d1 := dInt) (d2 := dInt) (d3 := dInt) (d4 := dInt))))) none r ∧ (l_web_m draws_here most_places most_ties) = .ok r) (fun x => ∃ px, (l_web_m draws_here most_places most_ties) = .exc px ∧ x = px.x A.tx) vs H Q E
theorem sp_l_web_len {C : GCtx} {A : CA3} {vs H Q E} (h : sp_l_web C A vs H Q E) : vs.length = 3 := by obtain ⟨_, _, _, _, h⟩ := h; exact h.len
theorem hs_l_web {C : GCtx} {A : CA3} : ∀ draws_here most_places most_ties, (l_web_m draws_here most_places most_ties).nb → SpX C (sp_l_web C A) [.val (dList (d := dInt)) draws_here, .val dInt most_places, .val dInt most_ties] (fun c => ∃ r, c = .own (dPair (d1 := (dList (d := dInt))) (d2 := (dList (d := (dT4 (d1 := dInt) (d2 := dInt) (d3 := dInt) (d4 := dInt)))))) (oPair (oList (d := dInt)) (oList (d := (dT4 (d1 := dInt) (d2 := dInt) (d3 := dInt) (d4 := dInt))))) none r ∧ (l_web_m draws_here most_places most_ties) = .ok r) (fun x => ∃ px, (l_web_m draws_here most_places most_ties) = .exc px ∧ x = px.x A.tx) := fun draws_here most_places most_ties nb vs H Q E h => ⟨draws_here, most_places, most_ties, nb, h⟩
def sp_l_faced (C : GCtx) (A : CA3) : Sp := fun vs H Q E => ∃ draws_here : (List Int), ∃ most_places : Int, ∃ most_ties : Int, (l_faced_m draws_here most_places most_ties).nb ∧ FnX C [.val (dList (d := dInt)) draws_here, .val dInt most_places, .val dInt most_ties] (fun c => ∃ r, c = .own (dT3 (d1 := (dList (d := dInt))) (d2 := (dList (d := (dT4 (d1 := dInt) (d2 := dInt) (d3 := dInt) (d4 := dInt))))) (d3 := (dList (d := dInt)))) (oT3 (oList (d := dInt)) (oList (d := (dT4 (d1 := dInt) (d2 := dInt) (d3 := dInt) (d4 := dInt)))) (oList (d := dInt))) none r ∧ (l_faced_m draws_here most_places most_ties) = .ok r) (fun x => ∃ px, (l_faced_m draws_here most_places most_ties) = .exc px ∧ x = px.x A.tx) vs H Q E
theorem sp_l_faced_len {C : GCtx} {A : CA3} {vs H Q E} (h : sp_l_faced C A vs H Q E) : vs.length = 3 := by obtain ⟨_, _, _, _, h⟩ := h; exact h.len
theorem hs_l_faced {C : GCtx} {A : CA3} : ∀ draws_here most_places most_ties, (l_faced_m draws_here most_places most_ties).nb → SpX C (sp_l_faced C A) [.val (dList (d := dInt)) draws_here, .val dInt most_places, .val dInt most_ties] (fun c => ∃ r, c = .own (dT3 (d1 := (dList (d := dInt))) (d2 := (dList (d := (dT4 (d1 := dInt) (d2 := dInt) (d3 := dInt) (d4 := dInt))))) (d3 := (dList (d := dInt)))) (oT3 (oList (d := dInt)) (oList (d := (dT4 (d1 := dInt) (d2 := dInt) (d3 := dInt) (d4 := dInt)))) (oList (d := dInt))) none r ∧ (l_faced_m draws_here most_places most_ties) = .ok r) (fun x => ∃ px, (l_faced_m draws_here most_places most_ties) = .exc px ∧ x = px.x A.tx) := fun draws_here most_places most_ties nb vs H Q E h => ⟨draws_here, most_places, most_ties, nb, h⟩
def sp_p_check_end (C : GCtx) (A : CA3) : Sp := fun vs H Q E => ∃ sides : (List Int), ∃ place : Int, ∃ side : Int, (p_check_end_m sides place side).nb ∧ FnX C [.val (dList (d := dInt)) sides, .val dInt place, .val dInt side] (fun c => ∃ r, c = .val dUnit r ∧ (p_check_end_m sides place side) = .ok r) (fun x => ∃ px, (p_check_end_m sides place side) = .exc px ∧ x = px.x A.tx) vs H Q E
theorem sp_p_check_end_len {C : GCtx} {A : CA3} {vs H Q E} (h : sp_p_check_end C A vs H Q E) : vs.length = 3 := by obtain ⟨_, _, _, _, h⟩ := h; exact h.len
theorem hs_p_check_end {C : GCtx} {A : CA3} : ∀ sides place side, (p_check_end_m sides place side).nb → SpX C (sp_p_check_end C A) [.val (dList (d := dInt)) sides, .val dInt place, .val dInt side] (fun c => ∃ r, c = .val dUnit r ∧ (p_check_end_m sides place side) = .ok r) (fun x => ∃ px, (p_check_end_m sides place side) = .exc px ∧ x = px.x A.tx) := fun sides place side nb vs H Q E h => ⟨sides, place, side, nb, h⟩
def sp_m_WebX_initX (C : GCtx) (A : CA3) : Sp := fun vs H Q E => ∃ sides : (List Int), ∃ ties : (List (T4 Int Int Int Int)), (m_WebX_initX_m sides ties).nb ∧ FnI C (oWeb A) (A.ob .Web) [.val (dList (d := dInt)) sides, .val (dList (d := (dT4 (d1 := dInt) (d2 := dInt) (d3 := dInt) (d4 := dInt)))) ties] (fun r => (m_WebX_initX_m sides ties) = .ok r) (fun x => ∃ px, (m_WebX_initX_m sides ties) = .exc px ∧ x = px.x A.tx) vs H Q E
theorem sp_m_WebX_initX_len {C : GCtx} {A : CA3} {vs H Q E} (h : sp_m_WebX_initX C A vs H Q E) : vs.length = 3 := by obtain ⟨_, _, _, h⟩ := h; exact h.len
theorem hs_m_WebX_initX {C : GCtx} {A : CA3} : ∀ sides ties, (m_WebX_initX_m sides ties).nb → SpI C (sp_m_WebX_initX C A) (oWeb A) (A.ob .Web) [.val (dList (d := dInt)) sides, .val (dList (d := (dT4 (d1 := dInt) (d2 := dInt) (d3 := dInt) (d4 := dInt)))) ties] (fun r => (m_WebX_initX_m sides ties) = .ok r) (fun x => ∃ px, (m_WebX_initX_m sides ties) = .exc px ∧ x = px.x A.tx) := fun sides ties nb vs H Q E h => ⟨sides, ties, nb, h⟩
def sp_l_table (C : GCtx) (A : CA3) : Sp := fun vs H Q E => ∃ ties : (List (T4 Int Int Int Int)), (l_table_m ties).nb ∧ FnX C [.val (dList (d := (dT4 (d1 := dInt) (d2 := dInt) (d3 := dInt) (d4 := dInt)))) ties] (fun c => ∃ r, c = .val (dKL (ky := kyPair) (d := (dList (d := (dPair (d1 := dInt) (d2 := dInt)))))) r ∧ (l_table_m ties) = .ok r) (fun x => ∃ px, (l_table_m ties) = .exc px ∧ x = px.x A.tx) vs H Q E
theorem sp_l_table_len {C : GCtx} {A : CA3} {vs H Q E} (h : sp_l_table C A vs H Q E) : vs.length = 1 := by obtain ⟨_, _, h⟩ := h; exact h.len
theorem hs_l_table {C : GCtx} {A : CA3} : ∀ ties, (l_table_m ties).nb → SpX C (sp_l_table C A) [.val (dList (d := (dT4 (d1 := dInt) (d2 := dInt) (d3 := dInt) (d4 := dInt)))) ties] (fun c => ∃ r, c = .val (dKL (ky := kyPair) (d := (dList (d := (dPair (d1 := dInt) (d2 := dInt)))))) r ∧ (l_table_m ties) = .ok r) (fun x => ∃ px, (l_table_m ties) = .exc px ∧ x = px.x A.tx) := fun ties nb vs H Q E h => ⟨ties, nb, h⟩
def sp_l_labels (C : GCtx) (A : CA3) : Sp := fun vs H Q E => ∃ table_here : (DK (Int × Int) (List (Int × Int))), ∃ many : Int, (l_labels_m table_here many).nb ∧ FnX C [.val (dKL (ky := kyPair) (d := (dList (d := (dPair (d1 := dInt) (d2 := dInt)))))) table_here, .val dInt many] (fun c => ∃ r, c = .own (dList (d := dInt)) (oList (d := dInt)) none r ∧ (l_labels_m table_here many) = .ok r) (fun x => ∃ px, (l_labels_m table_here many) = .exc px ∧ x = px.x A.tx) vs H Q E
theorem sp_l_labels_len {C : GCtx} {A : CA3} {vs H Q E} (h : sp_l_labels C A vs H Q E) : vs.length = 2 := by obtain ⟨_, _, _, h⟩ := h; exact h.len
theorem hs_l_labels {C : GCtx} {A : CA3} : ∀ table_here many, (l_labels_m table_here many).nb → SpX C (sp_l_labels C A) [.val (dKL (ky := kyPair) (d := (dList (d := (dPair (d1 := dInt) (d2 := dInt)))))) table_here, .val dInt many] (fun c => ∃ r, c = .own (dList (d := dInt)) (oList (d := dInt)) none r ∧ (l_labels_m table_here many) = .ok r) (fun x => ∃ px, (l_labels_m table_here many) = .exc px ∧ x = px.x A.tx) := fun table_here many nb vs H Q E h => ⟨table_here, many, nb, h⟩
def sp_l_carried (C : GCtx) (A : CA3) : Sp := fun vs H Q E => ∃ table_here : (DK (Int × Int) (List (Int × Int))), ∃ directions : (List Int), (∃ y, (l_carried_m table_here directions) = .ok y) ∧ FnM C dBool [.val (dKL (ky := kyPair) (d := (dList (d := (dPair (d1 := dInt) (d2 := dInt)))))) table_here, .own (dList (d := dInt)) (oList (d := dInt)) none directions] [1] (fun r Γm => ∃ x', (l_carried_m table_here directions) = .ok (r, x') ∧ Γm = [.own (dList (d := dInt)) (oList (d := dInt)) none x']) vs H Q E
theorem sp_l_carried_len {C : GCtx} {A : CA3} {vs H Q E} (h : sp_l_carried C A vs H Q E) : vs.length = 2 := by obtain ⟨_, _, _, h⟩ := h; exact h.len
theorem hs_l_carried {C : GCtx} {A : CA3} {table_here directions} (hy : ∃ y, (l_carried_m table_here directions) = .ok y) : SpM C (sp_l_carried C A) dBool [.val (dKL (ky := kyPair) (d := (dList (d := (dPair (d1 := dInt) (d2 := dInt)))))) table_here, .own (dList (d := dInt)) (oList (d := dInt)) none directions] [1] (fun r Γm => ∃ x', (l_carried_m table_here directions) = .ok (r, x') ∧ Γm = [.own (dList (d := dInt)) (oList (d := dInt)) none x']) := fun vs H Q E h => ⟨table_here, directions, hy, h⟩
def sp_l_forced (C : GCtx) (A : CA3) : Sp := fun vs H Q E => ∃ table_here : (DK (Int × Int) (List (Int × Int))), ∃ many : Int, (l_forced_m table_here many).nb ∧ FnX C [.val (dKL (ky := kyPair) (d := (dList (d := (dPair (d1 := dInt) (d2 := dInt)))))) table_here, .val dInt many] (fun c => ∃ r, c = .own (dList (d := dInt)) (oList (d := dInt)) none r ∧ (l_forced_m table_here many) = .ok r) (fun x => ∃ px, (l_forced_m table_here many) = .exc px ∧ x = px.x A.tx) vs H Q E
theorem sp_l_forced_len {C : GCtx} {A : CA3} {vs H Q E} (h : sp_l_forced C A vs H Q E) : vs.length = 2 := by obtain ⟨_, _, _, h⟩ := h; exact h.len
theorem hs_l_forced {C : GCtx} {A : CA3} : ∀ table_here many, (l_forced_m table_here many).nb → SpX C (sp_l_forced C A) [.val (dKL (ky := kyPair) (d := (dList (d := (dPair (d1 := dInt) (d2 := dInt)))))) table_here, .val dInt many] (fun c => ∃ r, c = .own (dList (d := dInt)) (oList (d := dInt)) none r ∧ (l_forced_m table_here many) = .ok r) (fun x => ∃ px, (l_forced_m table_here many) = .exc px ∧ x = px.x A.tx) := fun table_here many nb vs H Q E h => ⟨table_here, many, nb, h⟩
def sp_l_lists (C : GCtx) (A : CA3) : Sp := fun vs H Q E => ∃ draws_here : (List Int), ∃ at_ : Int, ∃ many : Int, ∃ forced_here : (List Int), ∃ label : (List Int), (l_lists_m draws_here at_ many forced_here label).nb ∧ FnX C [.val (dList (d := dInt)) draws_here, .val dInt at_, .val dInt many, .val (dList (d := dInt)) forced_here, .val (dList (d := dInt)) label] (fun c => ∃ r, c = .own (dList (d := (dList (d := dInt)))) (oList (d := (dList (d := dInt)))) none r ∧ (l_lists_m draws_here at_ many forced_here label) = .ok r) (fun x => ∃ px, (l_lists_m draws_here at_ many forced_here label) = .exc px ∧ x = px.x A.tx) vs H Q E
theorem sp_l_lists_len {C : GCtx} {A : CA3} {vs H Q E} (h : sp_l_lists C A vs H Q E) : vs.length = 5 := by obtain ⟨_, _, _, _, _, _, h⟩ := h; exact h.len
theorem hs_l_lists {C : GCtx} {A : CA3} : ∀ draws_here at_ many forced_here label, (l_lists_m draws_here at_ many forced_here label).nb → SpX C (sp_l_lists C A) [.val (dList (d := dInt)) draws_here, .val dInt at_, .val dInt many, .val (dList (d := dInt)) forced_here, .val (dList (d := dInt)) label] (fun c => ∃ r, c = .own (dList (d := (dList (d := dInt)))) (oList (d := (dList (d := dInt)))) none r ∧ (l_lists_m draws_here at_ many forced_here label) = .ok r) (fun x => ∃ px, (l_lists_m draws_here at_ many forced_here label) = .exc px ∧ x = px.x A.tx) := fun draws_here at_ many forced_here label nb vs H Q E h => ⟨draws_here, at_, many, forced_here, label, nb, h⟩
def sp_l_keeps (C : GCtx) (A : CA3) : Sp := fun vs H Q E => ∃ table_here : (DK (Int × Int) (List (Int × Int))), ∃ many : Int, ∃ directions : (List Int), (l_keeps_m table_here many directions).nb ∧ FnX C [.val (dKL (ky := kyPair) (d := (dList (d := (dPair (d1 := dInt) (d2 := dInt)))))) table_here, .val dInt many, .val (dList (d := dInt)) directions] (fun c => ∃ r, c = .val dBool r ∧ (l_keeps_m table_here many directions) = .ok r) (fun x => ∃ px, (l_keeps_m table_here many directions) = .exc px ∧ x = px.x A.tx) vs H Q E
theorem sp_l_keeps_len {C : GCtx} {A : CA3} {vs H Q E} (h : sp_l_keeps C A vs H Q E) : vs.length = 3 := by obtain ⟨_, _, _, _, h⟩ := h; exact h.len
theorem hs_l_keeps {C : GCtx} {A : CA3} : ∀ table_here many directions, (l_keeps_m table_here many directions).nb → SpX C (sp_l_keeps C A) [.val (dKL (ky := kyPair) (d := (dList (d := (dPair (d1 := dInt) (d2 := dInt)))))) table_here, .val dInt many, .val (dList (d := dInt)) directions] (fun c => ∃ r, c = .val dBool r ∧ (l_keeps_m table_here many directions) = .ok r) (fun x => ∃ px, (l_keeps_m table_here many directions) = .exc px ∧ x = px.x A.tx) := fun table_here many directions nb vs H Q E h => ⟨table_here, many, directions, nb, h⟩
def sp_p_every_step (C : GCtx) (A : CA3) : Sp := fun vs H Q E => ∃ web : WebM, (p_every_step_m web).nb ∧ FnX C [.val (dWeb A) web] (fun c => ∃ r, c = .own (dList (d := (dPair (d1 := dInt) (d2 := dInt)))) (oList (d := (dPair (d1 := dInt) (d2 := dInt)))) none r ∧ (p_every_step_m web) = .ok r) (fun x => ∃ px, (p_every_step_m web) = .exc px ∧ x = px.x A.tx) vs H Q E
theorem sp_p_every_step_len {C : GCtx} {A : CA3} {vs H Q E} (h : sp_p_every_step C A vs H Q E) : vs.length = 1 := by obtain ⟨_, _, h⟩ := h; exact h.len
theorem hs_p_every_step {C : GCtx} {A : CA3} : ∀ web, (p_every_step_m web).nb → SpX C (sp_p_every_step C A) [.val (dWeb A) web] (fun c => ∃ r, c = .own (dList (d := (dPair (d1 := dInt) (d2 := dInt)))) (oList (d := (dPair (d1 := dInt) (d2 := dInt)))) none r ∧ (p_every_step_m web) = .ok r) (fun x => ∃ px, (p_every_step_m web) = .exc px ∧ x = px.x A.tx) := fun web nb vs H Q E h => ⟨web, nb, h⟩
def sp_m_Web_back (C : GCtx) (A : CA3) : Sp := fun vs H Q E => ∃ step : (Int × Int), (m_Web_back_m step).nb ∧ FnX C [.val (dPair (d1 := dInt) (d2 := dInt)) step] (fun c => ∃ r, c = .val (dPair (d1 := dInt) (d2 := dInt)) r ∧ (m_Web_back_m step) = .ok r) (fun x => ∃ px, (m_Web_back_m step) = .exc px ∧ x = px.x A.tx) vs H Q E
theorem sp_m_Web_back_len {C : GCtx} {A : CA3} {vs H Q E} (h : sp_m_Web_back C A vs H Q E) : vs.length = 1 := by obtain ⟨_, _, h⟩ := h; exact h.len
theorem hs_m_Web_back {C : GCtx} {A : CA3} : ∀ step, (m_Web_back_m step).nb → SpX C (sp_m_Web_back C A) [.val (dPair (d1 := dInt) (d2 := dInt)) step] (fun c => ∃ r, c = .val (dPair (d1 := dInt) (d2 := dInt)) r ∧ (m_Web_back_m step) = .ok r) (fun x => ∃ px, (m_Web_back_m step) = .exc px ∧ x = px.x A.tx) := fun step nb vs H Q E h => ⟨step, nb, h⟩
def sp_m_Web_tail (C : GCtx) (A : CA3) : Sp := fun vs H Q E => ∃ self : WebM, ∃ step : (Int × Int), (m_Web_tail_m self step).nb ∧ FnX C [.val (dWeb A) self, .val (dPair (d1 := dInt) (d2 := dInt)) step] (fun c => ∃ r, c = .val (dPair (d1 := dInt) (d2 := dInt)) r ∧ (m_Web_tail_m self step) = .ok r) (fun x => ∃ px, (m_Web_tail_m self step) = .exc px ∧ x = px.x A.tx) vs H Q E
theorem sp_m_Web_tail_len {C : GCtx} {A : CA3} {vs H Q E} (h : sp_m_Web_tail C A vs H Q E) : vs.length = 2 := by obtain ⟨_, _, _, h⟩ := h; exact h.len
theorem hs_m_Web_tail {C : GCtx} {A : CA3} : ∀ self step, (m_Web_tail_m self step).nb → SpX C (sp_m_Web_tail C A) [.val (dWeb A) self, .val (dPair (d1 := dInt) (d2 := dInt)) step] (fun c => ∃ r, c = .val (dPair (d1 := dInt) (d2 := dInt)) r ∧ (m_Web_tail_m self step) = .ok r) (fun x => ∃ px, (m_Web_tail_m self step) = .exc px ∧ x = px.x A.tx) := fun self step nb vs H Q E h => ⟨self, step, nb, h⟩
def sp_m_Web_head (C : GCtx) (A : CA3) : Sp := fun vs H Q E => ∃ self : WebM, ∃ step : (Int × Int), (m_Web_head_m self step).nb ∧ FnX C [.val (dWeb A) self, .val (dPair (d1 := dInt) (d2 := dInt)) step] (fun c => ∃ r, c = .val (dPair (d1 := dInt) (d2 := dInt)) r ∧ (m_Web_head_m self step) = .ok r) (fun x => ∃ px, (m_Web_head_m self step) = .exc px ∧ x = px.x A.tx) vs H Q E
theorem sp_m_Web_head_len {C : GCtx} {A : CA3} {vs H Q E} (h : sp_m_Web_head C A vs H Q E) : vs.length = 2 := by obtain ⟨_, _, _, h⟩ := h; exact h.len
theorem hs_m_Web_head {C : GCtx} {A : CA3} : ∀ self step, (m_Web_head_m self step).nb → SpX C (sp_m_Web_head C A) [.val (dWeb A) self, .val (dPair (d1 := dInt) (d2 := dInt)) step] (fun c => ∃ r, c = .val (dPair (d1 := dInt) (d2 := dInt)) r ∧ (m_Web_head_m self step) = .ok r) (fun x => ∃ px, (m_Web_head_m self step) = .exc px ∧ x = px.x A.tx) := fun self step nb vs H Q E h => ⟨self, step, nb, h⟩
def sp_m_WebX_containsX (C : GCtx) (A : CA3) : Sp := fun vs H Q E => ∃ self : WebM, ∃ place : Int, (m_WebX_containsX_m self place).nb ∧ FnX C [.val (dWeb A) self, .val dInt place] (fun c => ∃ r, c = .val dBool r ∧ (m_WebX_containsX_m self place) = .ok r) (fun x => ∃ px, (m_WebX_containsX_m self place) = .exc px ∧ x = px.x A.tx) vs H Q E
theorem sp_m_WebX_containsX_len {C : GCtx} {A : CA3} {vs H Q E} (h : sp_m_WebX_containsX C A vs H Q E) : vs.length = 2 := by obtain ⟨_, _, _, h⟩ := h; exact h.len
theorem hs_m_WebX_containsX {C : GCtx} {A : CA3} : ∀ self place, (m_WebX_containsX_m self place).nb → SpX C (sp_m_WebX_containsX C A) [.val (dWeb A) self, .val dInt place] (fun c => ∃ r, c = .val dBool r ∧ (m_WebX_containsX_m self place) = .ok r) (fun x => ∃ px, (m_WebX_containsX_m self place) = .exc px ∧ x = px.x A.tx) := fun self place nb vs H Q E h => ⟨self, place, nb, h⟩
def sp_m_Web_steps_from (C : GCtx) (A : CA3) : Sp := fun vs H Q E => ∃ self : WebM, ∃ place : Int, (m_Web_steps_from_m self place).nb ∧ FnX C [.val (dWeb A) self, .val dInt place] (fun c => ∃ r, c = .own (dList (d := (dPair (d1 := dInt) (d2 := dInt)))) (oList (d := (dPair (d1 := dInt) (d2 := dInt)))) none r ∧ (m_Web_steps_from_m self place) = .ok r) (fun x => ∃ px, (m_Web_steps_from_m self place) = .exc px ∧ x = px.x A.tx) vs H Q E
theorem sp_m_Web_steps_from_len {C : GCtx} {A : CA3} {vs H Q E} (h : sp_m_Web_steps_from C A vs H Q E) : vs.length = 2 := by obtain ⟨_, _, _, h⟩ := h; exact h.len
theorem hs_m_Web_steps_from {C : GCtx} {A : CA3} : ∀ self place, (m_Web_steps_from_m self place).nb → SpX C (sp_m_Web_steps_from C A) [.val (dWeb A) self, .val dInt place] (fun c => ∃ r, c = .own (dList (d := (dPair (d1 := dInt) (d2 := dInt)))) (oList (d := (dPair (d1 := dInt) (d2 := dInt)))) none r ∧ (m_Web_steps_from_m self place) = .ok r) (fun x => ∃ px, (m_Web_steps_from_m self place) = .exc px ∧ x = px.x A.tx) := fun self place nb vs H Q E h => ⟨self, place, nb, h⟩
def sp_p_followers (C : GCtx) (A : CA3) : Sp := fun vs H Q E => ∃ web : WebM, ∃ step : (Int × Int), (p_followers_m web step).nb ∧ FnX C [.val (dWeb A) web, .val (dPair (d1 := dInt) (d2 := dInt)) step] (fun c => ∃ r, c = .own (dList (d := (dPair (d1 := dInt) (d2 := dInt)))) (oList (d := (dPair (d1 := dInt) (d2 := dInt)))) none r ∧ (p_followers_m web step) = .ok r) (fun x => ∃ px, (p_followers_m web step) = .exc px ∧ x = px.x A.tx) vs H Q E
theorem sp_p_followers_len {C : GCtx} {A : CA3} {vs H Q E} (h : sp_p_followers C A vs H Q E) : vs.length = 2 := by obtain ⟨_, _, _, h⟩ := h; exact h.len
theorem hs_p_followers {C : GCtx} {A : CA3} : ∀ web step, (p_followers_m web step).nb → SpX C (sp_p_followers C A) [.val (dWeb A) web, .val (dPair (d1 := dInt) (d2 := dInt)) step] (fun c => ∃ r, c = .own (dList (d := (dPair (d1 := dInt) (d2 := dInt)))) (oList (d := (dPair (d1 := dInt) (d2 := dInt)))) none r ∧ (p_followers_m web step) = .ok r) (fun x => ∃ px, (p_followers_m web step) = .exc px ∧ x = px.x A.tx) := fun web step nb vs H Q E h => ⟨web, step, nb, h⟩
def sp_p_is_facing (C : GCtx) (A : CA3) : Sp := fun vs H Q E => ∃ web : WebM, ∃ directions : (List Int), (p_is_facing_m web directions).nb ∧ FnX C [.val (dWeb A) web, .val (dList (d := dInt)) directions] (fun c => ∃ r, c = .val dBool r ∧ (p_is_facing_m web directions) = .ok r) (fun x => ∃ px, (p_is_facing_m web directions) = .exc px ∧ x = px.x A.tx) vs H Q E
theorem sp_p_is_facing_len {C : GCtx} {A : CA3} {vs H Q E} (h : sp_p_is_facing C A vs H Q E) : vs.length = 2 := by obtain ⟨_, _, _, h⟩ := h; exact h.len
theorem hs_p_is_facing {C : GCtx} {A : CA3} : ∀ web directions, (p_is_facing_m web directions).nb → SpX C (sp_p_is_facing C A) [.val (dWeb A) web, .val (dList (d := dInt)) directions] (fun c => ∃ r, c = .val dBool r ∧ (p_is_facing_m web directions) = .ok r) (fun x => ∃ px, (p_is_facing_m web directions) = .exc px ∧ x = px.x A.tx) := fun web directions nb vs H Q E h => ⟨web, directions, nb, h⟩
def sp_l_same (n : Nat) (C : GCtx) (A : CA3) : Sp := fun vs H Q E => ∃ told : PyData, ∃ due : PyData, (l_same_m n told due).nb ∧ FnX C [.val dU told, .val dU due] (fun c => ∃ r, c = .val dBool r ∧ (l_same_m n told due) = .ok r) (fun x => ∃ px, (l_same_m n told due) = .exc px ∧ x = px.x A.tx) vs H Q E
theorem sp_l_same_len {n : Nat} {C : GCtx} {A : CA3} {vs H Q E} (h : sp_l_same n C A vs H Q E) : vs.length = 2 := by obtain ⟨_, _, _, h⟩ := h; exact h.len
theorem hs_l_same {n : Nat} {C : GCtx} {A : CA3} : ∀ told due, (l_same_m n told due).nb → SpX C (sp_l_same n C A) [.val dU told, .val dU due] (fun c => ∃ r, c = .val dBool r ∧ (l_same_m n told due) = .ok r) (fun x => ∃ px, (l_same_m n told due) = .exc px ∧ x = px.x A.tx) := fun told due nb vs H Q E h => ⟨told, due, nb, h⟩
def sp_p_is_facing_v2 (C : GCtx) (A : CA3) : Sp := fun vs H Q E => ∃ web : WebM, ∃ directions : (Tup Int), (p_is_facing_v2_m web directions).nb ∧ FnX C [.val (dWeb A) web, .val (dTup (d := dInt)) directions] (fun c => ∃ r, c = .val dBool r ∧ (p_is_facing_v2_m web directions) = .ok r) (fun x => ∃ px, (p_is_facing_v2_m web directions) = .exc px ∧ x = px.x A.tx) vs H Q E
theorem sp_p_is_facing_v2_len {C : GCtx} {A : CA3} {vs H Q E} (h : sp_p_is_facing_v2 C A vs H Q E) : vs.length = 2 := by obtain ⟨_, _, _, h⟩ := h; exact h.len
theorem hs_p_is_facing_v2 {C : GCtx} {A : CA3} : ∀ web directions, (p_is_facing_v2_m web directions).nb → SpX C (sp_p_is_facing_v2 C A) [.val (dWeb A) web, .val (dTup (d := dInt)) directions] (fun c => ∃ r, c = .val dBool r ∧ (p_is_facing_v2_m web directions) = .ok r) (fun x => ∃ px, (p_is_facing_v2_m web directions) = .exc px ∧ x = px.x A.tx) := fun web directions nb vs H Q E h => ⟨web, directions, nb, h⟩
def sp_p_steps_alike (C : GCtx) (A : CA3) : Sp := fun vs H Q E => ∃ web : WebM, ∃ step : (Int × Int), (p_steps_alike_m web step).nb ∧ FnX C [.val (dWeb A) web, .val (dPair (d1 := dInt) (d2 := dInt)) step] (fun c => ∃ r, c = .own (dList (d := (dPair (d1 := dInt) (d2 := dInt)))) (oList (d := (dPair (d1 := dInt) (d2 := dInt)))) none r ∧ (p_steps_alike_m web step) = .ok r) (fun x => ∃ px, (p_steps_alike_m web step) = .exc px ∧ x = px.x A.tx) vs H Q E
theorem sp_p_steps_alike_len {C : GCtx} {A : CA3} {vs H Q E} (h : sp_p_steps_alike C A vs H Q E) : vs.length = 2 := by obtain ⟨_, _, _, h⟩ := h; exact h.len
theorem hs_p_steps_alike {C : GCtx} {A : CA3} : ∀ web step, (p_steps_alike_m web step).nb → SpX C (sp_p_steps_alike C A) [.val (dWeb A) web, .val (dPair (d1 := dInt) (d2 := dInt)) step] (fun c => ∃ r, c = .own (dList (d := (dPair (d1 := dInt) (d2 := dInt)))) (oList (d := (dPair (d1 := dInt) (d2 := dInt)))) none r ∧ (p_steps_alike_m web step) = .ok r) (fun x => ∃ px, (p_steps_alike_m web step) = .exc px ∧ x = px.x A.tx) := fun web step nb vs H Q E h => ⟨web, step, nb, h⟩
def sp_p_facing (C : GCtx) (A : CA3) : Sp := fun vs H Q E => ∃ web : WebM, (p_facing_m web).nb ∧ FnX C [.val (dWeb A) web] (fun c => ∃ r, c = .val (dOpt (d := (dList (d := dInt)))) r ∧ (p_facing_m web) = .ok r) (fun x => ∃ px, (p_facing_m web) = .exc px ∧ x = px.x A.tx) vs H Q E
theorem sp_p_facing_len {C : GCtx} {A : CA3} {vs H Q E} (h : sp_p_facing C A vs H Q E) : vs.length = 1 := by obtain ⟨_, _, h⟩ := h; exact h.len
theorem hs_p_facing {C : GCtx} {A : CA3} : ∀ web, (p_facing_m web).nb → SpX C (sp_p_facing C A) [.val (dWeb A) web] (fun c => ∃ r, c = .val (dOpt (d := (dList (d := dInt)))) r ∧ (p_facing_m web) = .ok r) (fun x => ∃ px, (p_facing_m web) = .exc px ∧ x = px.x A.tx) := fun web nb vs H Q E h => ⟨web, nb, h⟩
def sp_p_grouped (C : GCtx) (A : CA3) : Sp := fun vs H Q E => ∃ points : (List Int), ∃ ties : (List (Int × Int)), (p_grouped_m points ties).nb ∧ FnX C [.val (dList (d := dInt)) points, .val (dList (d := (dPair (d1 := dInt) (d2 := dInt)))) ties] (fun c => ∃ r, c = .own (dList (d := (dList (d := dInt)))) (oDeep (oList (d := dInt))) none r ∧ (p_grouped_m points ties) = .ok r) (fun x => ∃ px, (p_grouped_m points ties) = .exc px ∧ x = px.x A.tx) vs H Q E
theorem sp_p_grouped_len {C : GCtx} {A : CA3} {vs H Q E} (h : sp_p_grouped C A vs H Q E) : vs.length = 2 := by obtain ⟨_, _, _, h⟩ := h; exact h.len
theorem hs_p_grouped {C : GCtx} {A : CA3} : ∀ points ties, (p_grouped_m points ties).nb → SpX C (sp_p_grouped C A) [.val (dList (d := dInt)) points, .val (dList (d := (dPair (d1 := dInt) (d2 := dInt)))) ties] (fun c => ∃ r, c = .own (dList (d := (dList (d := dInt)))) (oDeep (oList (d := dInt))) none r ∧ (p_grouped_m points ties) = .ok r) (fun x => ∃ px, (p_grouped_m points ties) = .exc px ∧ x = px.x A.tx) := fun points ties nb vs H Q E h => ⟨points, ties, nb, h⟩
def sp_p_tie_groups (C : GCtx) (A : CA3) : Sp := fun vs H Q E => ∃ web : WebM, (p_tie_groups_m web).nb ∧ FnX C [.val (dWeb A) web] (fun c => ∃ r, c = .own (dList (d := (dList (d := dInt)))) (oDeep (oList (d := dInt))) none r ∧ (p_tie_groups_m web) = .ok r) (fun x => ∃ px, (p_tie_groups_m web) = .exc px ∧ x = px.x A.tx) vs H Q E
theorem sp_p_tie_groups_len {C : GCtx} {A : CA3} {vs H Q E} (h : sp_p_tie_groups C A vs H Q E) : vs.length = 1 := by obtain ⟨_, _, h⟩ := h; exact h.len
theorem hs_p_tie_groups {C : GCtx} {A : CA3} : ∀ web, (p_tie_groups_m web).nb → SpX C (sp_p_tie_groups C A) [.val (dWeb A) web] (fun c => ∃ r, c = .own (dList (d := (dList (d := dInt)))) (oDeep (oList (d := dInt))) none r ∧ (p_tie_groups_m web) = .ok r) (fun x => ∃ px, (p_tie_groups_m web) = .exc px ∧ x = px.x A.tx) := fun web nb vs H Q E h => ⟨web, nb, h⟩
def sp_p_count_facings (C : GCtx) (A : CA3) : Sp := fun vs H Q E => ∃ web : WebM, (p_count_facings_m web).nb ∧ FnX C [.val (dWeb A) web] (fun c => ∃ r, c = .val dInt r ∧ (p_count_facings_m web) = .ok r) (fun x => ∃ px, (p_count_facings_m web) = .exc px ∧ x = px.x A.tx) vs H Q E
theorem sp_p_count_facings_len {C : GCtx} {A : CA3} {vs H Q E} (h : sp_p_count_facings C A vs H Q E) : vs.length = 1 := by obtain ⟨_, _, h⟩ := h; exact h.len
theorem hs_p_count_facings {C : GCtx} {A : CA3} : ∀ web, (p_count_facings_m web).nb → SpX C (sp_p_count_facings C A) [.val (dWeb A) web] (fun c => ∃ r, c = .val dInt r ∧ (p_count_facings_m web) = .ok r) (fun x => ∃ px, (p_count_facings_m web) = .exc px ∧ x = px.x A.tx) := fun web nb vs H Q E h => ⟨web, nb, h⟩
def sp_l_right_groups (C : GCtx) (A : CA3) : Sp := fun vs H Q E => ∃ web_here : WebM, ∃ label : (List Int), ∃ many : Int, (l_right_groups_m web_here label many).nb ∧ FnX C [.val (dWeb A) web_here, .val (dList (d := dInt)) label, .val dInt many] (fun c => ∃ r, c = .val dBool r ∧ (l_right_groups_m web_here label many) = .ok r) (fun x => ∃ px, (l_right_groups_m web_here label many) = .exc px ∧ x = px.x A.tx) vs H Q E
theorem sp_l_right_groups_len {C : GCtx} {A : CA3} {vs H Q E} (h : sp_l_right_groups C A vs H Q E) : vs.length = 3 := by obtain ⟨_, _, _, _, h⟩ := h; exact h.len
theorem hs_l_right_groups {C : GCtx} {A : CA3} : ∀ web_here label many, (l_right_groups_m web_here label many).nb → SpX C (sp_l_right_groups C A) [.val (dWeb A) web_here, .val (dList (d := dInt)) label, .val dInt many] (fun c => ∃ r, c = .val dBool r ∧ (l_right_groups_m web_here label many) = .ok r) (fun x => ∃ px, (l_right_groups_m web_here label many) = .exc px ∧ x = px.x A.tx) := fun web_here label many nb vs H Q E h => ⟨web_here, label, many, nb, h⟩
def sp_l_right_web (C : GCtx) (A : CA3) : Sp := fun vs H Q E => ∃ web_here : WebM, ∃ ties : (List (T4 Int Int Int Int)), ∃ draws_here : (List Int), ∃ at_ : Int, (l_right_web_m web_here ties draws_here at_).nb ∧ FnX C [.val (dWeb A) web_here, .val (dList (d := (dT4 (d1 := dInt) (d2 := dInt) (d3 := dInt) (d4 := dInt)))) ties, .val (dList (d := dInt)) draws_here, .val dInt at_] (fun c => ∃ r, c = .val dBool r ∧ (l_right_web_m web_here ties draws_here at_) = .ok r) (fun x => ∃ px, (l_right_web_m web_here ties draws_here at_) = .exc px ∧ x = px.x A.tx) vs H Q E
theorem sp_l_right_web_len {C : GCtx} {A : CA3} {vs H Q E} (h : sp_l_right_web C A vs H Q E) : vs.length = 4 := by obtain ⟨_, _, _, _, _, h⟩ := h; exact h.len
theorem hs_l_right_web {C : GCtx} {A : CA3} : ∀ web_here ties draws_here at_, (l_right_web_m web_here ties draws_here at_).nb → SpX C (sp_l_right_web C A) [.val (dWeb A) web_here, .val (dList (d := (dT4 (d1 := dInt) (d2 := dInt) (d3 := dInt) (d4 := dInt)))) ties, .val (dList (d := dInt)) draws_here, .val dInt at_] (fun c => ∃ r, c = .val dBool r ∧ (l_right_web_m web_here ties draws_here at_) = .ok r) (fun x => ∃ px, (l_right_web_m web_here ties draws_here at_) = .exc px ∧ x = px.x A.tx) := fun web_here ties draws_here at_ nb vs H Q E h => ⟨web_here, ties, draws_here, at_, nb, h⟩
def sp_p_check_end_v2 (C : GCtx) (A : CA3) : Sp := fun vs H Q E => ∃ sides : (Tup Int), ∃ place : Int, ∃ side : Int, (p_check_end_v2_m sides place side).nb ∧ FnX C [.val (dTup (d := dInt)) sides, .val dInt place, .val dInt side] (fun c => ∃ r, c = .val dUnit r ∧ (p_check_end_v2_m sides place side) = .ok r) (fun x => ∃ px, (p_check_end_v2_m sides place side) = .exc px ∧ x = px.x A.tx) vs H Q E
theorem sp_p_check_end_v2_len {C : GCtx} {A : CA3} {vs H Q E} (h : sp_p_check_end_v2 C A vs H Q E) : vs.length = 3 := by obtain ⟨_, _, _, _, h⟩ := h; exact h.len
theorem hs_p_check_end_v2 {C : GCtx} {A : CA3} : ∀ sides place side, (p_check_end_v2_m sides place side).nb → SpX C (sp_p_check_end_v2 C A) [.val (dTup (d := dInt)) sides, .val dInt place, .val dInt side] (fun c => ∃ r, c = .val dUnit r ∧ (p_check_end_v2_m sides place side) = .ok r) (fun x => ∃ px, (p_check_end_v2_m sides place side) = .exc px ∧ x = px.x A.tx) := fun sides place side nb vs H Q E h => ⟨sides, place, side, nb, h⟩
def sp_m_WebX_initX_v2 (C : GCtx) (A : CA3) : Sp := fun vs H Q E => ∃ sides : (Tup Int), ∃ ties : (Tup (T4 Int Int Int Int)), (m_WebX_initX_v2_m sides ties).nb ∧ FnI C (oWeb A) (A.ob .Web) [.val (dTup (d := dInt)) sides, .val (dTup (d := (dT4 (d1 := dInt) (d2 := dInt) (d3 := dInt) (d4 := dInt)))) ties] (fun r => (m_WebX_initX_v2_m sides ties) = .ok r) (fun x => ∃ px, (m_WebX_initX_v2_m sides ties) = .exc px ∧ x = px.x A.tx) vs H Q E
theorem sp_m_WebX_initX_v2_len {C : GCtx} {A : CA3} {vs H Q E} (h : sp_m_WebX_initX_v2 C A vs H Q E) : vs.length = 3 := by obtain ⟨_, _, _, h⟩ := h; exact h.len
theorem hs_m_WebX_initX_v2 {C : GCtx} {A : CA3} : ∀ sides ties, (m_WebX_initX_v2_m sides ties).nb → SpI C (sp_m_WebX_initX_v2 C A) (oWeb A) (A.ob .Web) [.val (dTup (d := dInt)) sides, .val (dTup (d := (dT4 (d1 := dInt) (d2 := dInt) (d3 := dInt) (d4 := dInt)))) ties] (fun r => (m_WebX_initX_v2_m sides ties) = .ok r) (fun x => ∃ px, (m_WebX_initX_v2_m sides ties) = .exc px ∧ x = px.x A.tx) := fun sides ties nb vs H Q E h => ⟨sides, ties, nb, h⟩
def sp_m_Web_empty (C : GCtx) (A : CA3) : Sp := fun vs H Q E => ∃ cls : Unit, (m_Web_empty_m cls).nb ∧ FnX C [.val (dCls (A.ob .Web)) cls] (fun c => ∃ r, c = .own (dWeb A) (oWeb A) none r ∧ (m_Web_empty_m cls) = .ok r) (fun x => ∃ px, (m_Web_empty_m cls) = .exc px ∧ x = px.x A.tx) vs H Q E
theorem sp_m_Web_empty_len {C : GCtx} {A : CA3} {vs H Q E} (h : sp_m_Web_empty C A vs H Q E) : vs.length = 1 := by obtain ⟨_, _, h⟩ := h; exact h.len
theorem hs_m_Web_empty {C : GCtx} {A : CA3} : ∀ cls, (m_Web_empty_m cls).nb → SpX C (sp_m_Web_empty C A) [.val (dCls (A.ob .Web)) cls] (fun c => ∃ r, c = .own (dWeb A) (oWeb A) none r ∧ (m_Web_empty_m cls) = .ok r) (fun x => ∃ px, (m_Web_empty_m cls) = .exc px ∧ x = px.x A.tx) := fun cls nb vs H Q E h => ⟨cls, nb, h⟩
def sp_law (C : GCtx) : Sp := fun vs H Q _ => ∃ s : Sq Int, law_m s = .ok true ∧ Fn C [.val (dSq (d := dInt)) s] (fun c => c = .val dBool true) vs H Q
theorem sp_law_len {C : GCtx} {vs H Q E} (h : sp_law C vs H Q E) : vs.length = 1 := by obtain ⟨_, _, h⟩ := h; exact h.len
end K13
end

namespace K13
open PySem L2 G PM
set_option maxHeartbeats 4000000 in
theorem ok_l_cell {P : Program} {w : World} {K : PySem.W.Frag} {mg : Str → Option Value} {base : Heap} (T : Txt K mg) : FnOk P w K mg base (L2.CX P w) 1 T.a_l_cell T.f_l_cell ["_law_script", "_law_k"] (sp_l_cell ⟨P, w, K⟩ T.A) := by
  have nd := sc_l_cell.nd
  refine T.F_l_cell.okX sc_l_cell (fun vs H Q E h => ?_) (fun cdv A outer s H vs Q E hr h => ?_)
  · exact sp_l_cell_len h
  have hu := hu_of hr
  refine ⟨_, (pss_cons (ps_if (pt_cmpR op_lt (pv 1) (pe_callB (len_K K) (by rfl) T.b_len (by decide +kernel) (pa_cons (pv 0) pa_nil)) (nomark _))
        (pss_one (ps_ret (pe_ix (ix_qK K) (pv 0) (pv 1) (fun _ _ => rfl))))
        pss_nil)
      (pss_one (ps_ret pe_int))), ?_⟩
  try dsimp only [cxOf]
  obtain ⟨script, k, nb, h⟩ := h
  refine Zm.body (js := [0, 1]) (m := l_cell_m script k) nb h ?_
  refine zm_to (Γ2 := [(.val (dSq (d := dInt)) script), (.val dInt k)]) rfl ?_
  delta l_cell_m
  refine zm_ifP (te_eq (te_test (we_lt (re_w (we_var rfl)) (re_w (we_lenQ (re_w (we_var rfl)))))) rfl) ?_ ?_
  · exact zm_ret (we_eq (we_ixQ (we_var rfl) (re_w (we_var rfl))) rfl)
  · refine zm_skip ?_
    refine zm_last ?_
    exact zm_ret (we_eq we_int rfl)
end K13

namespace K13
open PySem L2 G PM
set_option maxHeartbeats 4000000 in
theorem ok_l_draws {P : Program} {w : World} {K : PySem.W.Frag} {mg : Str → Option Value} {base : Heap} (T : Txt K mg) : FnOk P w K mg base (L2.CX P w) 1 T.a_l_draws T.f_l_draws ["_law_cell_here", "_law_many"] (sp_l_draws ⟨P, w, K⟩ T.A) := by
  have nd := sc_l_draws.nd
  refine T.F_l_draws.okX sc_l_draws (fun vs H Q E h => ?_) (fun cdv A outer s H vs Q E hr h => ?_)
  · exact sp_l_draws_len h
  have hu := hu_of hr
  refine ⟨_, (pss_cons (ps_set (i := 2) nd rfl (Or.inl rfl) (pe_callB call_abs (by rfl) T.b_abs (by decide +kernel) (pa_cons (pe_callTy call_int1 (by rfl) T.b_int (by decide +kernel) (pa_cons (pv 0) pa_nil)) pa_nil)))
      (pss_cons (ps_set (i := 3) nd rfl (Or.inl rfl) (pe_cmpR op_ge (pv 2) (pe_op op_pow pe_int pe_int) (nomark _)))
      (pss_cons (ps_set (i := 4) nd rfl (Or.inl rfl) (pe_op op_add (pe_op op_mod (pe_callTy call_int1 (by rfl) T.b_int (by decide +kernel) (pa_cons (pv 2) pa_nil)) pe_int) pe_int))
      (pss_cons (ps_set (i := 5) nd rfl (Or.inl rfl) (pe_lst pa_nil))
      (pss_cons (ps_for (passes_of rfl) rfl (pi_range1 (by rfl) T.b_range (pa_cons (pv 1) pa_nil)) (pg_name (i := 6) nd rfl (Or.inl rfl))
        (pss_cons (ps_set (i := 4) nd rfl (Or.inl rfl) (pe_op op_mod (pe_callTy call_int1 (by rfl) T.b_int (by decide +kernel) (pa_cons (pe_op op_add (pe_op op_add (pe_op op_mul (pv 4) pe_int) (pe_op op_mul pe_int (pv 6))) pe_int) pa_nil)) pe_int))
      (pss_one (ps_if (PW.pt (pw_and (pt_val (pv 3)) (pw_and1 (pt_cmpR op_gt (pv 2) pe_int (nomark _)))))
        (pss_cons (ps_expr (bm_K K PySem.F.plainAttrs_list PySem.F.slot_list_append PySem.F.type_list_append mt_append (pv 5) (pa_cons (pe_op op_mod (pe_callTy call_int1 (by rfl) T.b_int (by decide +kernel) (pa_cons (pv 2) pa_nil)) pe_int) pa_nil)))
      (pss_one (ps_set (i := 2) nd rfl (Or.inl rfl) (pe_op op_fdiv (pv 2) pe_int))))
        (pss_one (ps_expr (bm_K K PySem.F.plainAttrs_list PySem.F.slot_list_append PySem.F.type_list_append mt_append (pv 5) (pa_cons (pe_op op_mod (pe_op op_fdiv (pv 4) pe_int) pe_int) pa_nil))))))))
      (pss_one (ps_ret (pv 5)))))))), ?_⟩
  try dsimp only [cxOf]
  obtain ⟨cell_here, many, nb, h⟩ := h
  refine Zm.body (js := [0, 1, 2, 3, 4, 5, 6]) (m := l_draws_m cell_here many) nb h ?_
  refine zm_to (Γ2 := [(.val dInt cell_here), (.val dInt many), .no, .no, .no, .no, .no]) rfl ?_
  delta l_draws_m
  refine zm_set (i := 2) rfl (by decide) (we_eq (we_abs (re_w (we_int1 (re_w (we_var rfl))))) rfl) fun rest_1 => ?_
  refine zm_set (i := 3) rfl (by decide) (we_eq (we_ge (re_w (we_var rfl)) (re_w (we_powC (c := 1000000000000000000) (re_w we_int) (re_w we_int) (by decide)))) rfl) fun exact_2 => ?_
  refine zm_set (i := 4) rfl (by decide) (we_eq (we_add (re_w (we_modC (re_w (we_int1 (re_w (we_var rfl)))) (re_w we_int))) (re_w we_int)) rfl) fun mixed_3 => ?_
  refine zm_setO (i := 5) rfl (by decide) (oe_eq (oe_lst0 (d := dInt)) rfl) fun draws_here_4 => ?_
  refine zm_for [6] (fun s5 => [(.val dInt cell_here), (.val dInt many), (.val dInt s5.1), (.val dBool exact_2), (.val dInt s5.2.1), (.own (dList (d := dInt)) (oList (d := dInt)) none s5.2.2), .no]) (rest_1, mixed_3, draws_here_4) (wlen 7 (by exact rfl) (by exact rfl) (by decide)) rfl (fun _ => (wlen 7 (by exact rfl) (by exact rfl) (by decide))) (ie_eq (ie_range (re_w (we_var rfl))) rfl) (fun s5 x6 => (a_name rfl ⟨(wlen 7 (by exact rfl) (by exact rfl) (by decide)), ?_⟩)) fun s11 => ?_
  · refine zm_set (i := 4) rfl (by decide) (we_eq (we_modC (re_w (we_int1 (re_w (we_add (re_w (we_add (re_w (we_mulCr (re_w (we_var rfl)) (re_w we_int))) (re_w (we_mulCl (re_w we_int) (re_w (we_var rfl)))))) (re_w we_int))))) (re_w we_int)) rfl) fun mixed_7 => ?_
    refine zm_last ?_
    refine zm_ifP (te_eq (te_andP (te_B (we_var rfl)) (te_test (we_gt (re_w (we_var rfl)) (re_w we_int)))) rfl) ?_ ?_
    · refine zm_assoc ?_
      refine zm_append (i := 5) rfl (by decide) (we_eq (we_modC (re_w (we_int1 (re_w (we_var rfl)))) (re_w we_int)) rfl) fun draws_here_8 => ?_
      refine zm_set (i := 2) rfl (by decide) (we_eq (we_fdivC (re_w (we_var rfl)) (re_w we_int)) rfl) fun rest_9 => ?_
      exact zm_nextL rfl
    · refine zm_append (i := 5) rfl (by decide) (we_eq (we_modC (re_w (we_fdivC (re_w (we_var rfl)) (re_w we_int))) (re_w we_int)) rfl) fun draws_here_10 => ?_
      exact zm_nextL rfl
  · refine zm_last ?_
    exact zm_retV rfl
end K13

namespace K13
open PySem L2 G PM
set_option maxHeartbeats 4000000 in
theorem ok_l_pick {P : Program} {w : World} {K : PySem.W.Frag} {mg : Str → Option Value} {base : Heap} (T : Txt K mg) : FnOk P w K mg base (L2.CX P w) 1 T.a_l_pick T.f_l_pick ["_law_draws_here", "_law_k", "_law_many"] (sp_l_pick ⟨P, w, K⟩ T.A) := by
  have nd := sc_l_pick.nd
  refine T.F_l_pick.okX sc_l_pick (fun vs H Q E h => ?_) (fun cdv A outer s H vs Q E hr h => ?_)
  · exact sp_l_pick_len h
  have hu := hu_of hr
  refine ⟨_, (pss_cons (ps_if (PW.pt (pw_or (pt_cmpR op_lt (pv 2) pe_int (nomark _)) (pw_or1 (pt_cmpR op_eq (pe_callB (len_K K) (by rfl) T.b_len (by decide +kernel) (pa_cons (pv 0) pa_nil)) pe_int (nomark _)))))
        (pss_one (ps_ret pe_int))
        pss_nil)
      (pss_one (ps_ret (pe_op op_mod (pe_callTy call_int1 (by rfl) T.b_int (by decide +kernel) (pa_cons (pe_ix (ix_lK K) (pv 0) (pe_op op_mod (pe_callTy call_int1 (by rfl) T.b_int (by decide +kernel) (pa_cons (pv 1) pa_nil)) (pe_callB (len_K K) (by rfl) T.b_len (by decide +kernel) (pa_cons (pv 0) pa_nil))) (fun _ _ => rfl)) pa_nil)) (pv 2))))), ?_⟩
  try dsimp only [cxOf]
  obtain ⟨draws_here, k, many, nb, h⟩ := h
  refine Zm.body (js := [0, 1, 2]) (m := l_pick_m draws_here k many) nb h ?_
  refine zm_to (Γ2 := [(.val (dList (d := dInt)) draws_here), (.val dInt k), (.val dInt many)]) rfl ?_
  delta l_pick_m
  refine zm_ifP (te_eq (te_orP (te_test (we_lt (re_w (we_var rfl)) (re_w we_int))) (te_test (we_eqS (re_w (we_len (re_w (we_var rfl)))) (re_w we_int)))) rfl) ?_ ?_
  · exact zm_ret (we_eq we_int rfl)
  · refine zm_skip ?_
    refine zm_last ?_
    exact zm_ret (we_eq (we_mod (re_w (we_int1 (re_w (we_ix (we_var rfl) (re_w (we_mod (re_w (we_int1 (re_w (we_var rfl)))) (re_w (we_len (re_w (we_var rfl)))))))))) (re_w (we_var rfl))) rfl)
end K13

namespace K13
open PySem L2 G PM
set_option maxHeartbeats 4000000 in
theorem ok_l_web {P : Program} {w : World} {K : PySem.W.Frag} {mg : Str → Option Value} {base : Heap} (T : Txt K mg) (G_l_pick : FnOk P w K mg base (L2.CX P w) 1 T.a_l_pick T.f_l_pick ["_law_draws_here", "_law_k", "_law_many"] (sp_l_pick ⟨P, w, K⟩ T.A)) : FnOk P w K mg base (L2.CX P w) 2 T.a_l_web T.f_l_web ["_law_draws_here", "_law_most_places", "_law_most_ties"] (sp_l_web ⟨P, w, K⟩ T.A) := by
  have nd := sc_l_web.nd
  refine T.F_l_web.okX sc_l_web (fun vs H Q E h => ?_) (fun cdv A outer s H vs Q E hr h => ?_)
  · exact sp_l_web_len h
  have hu := hu_of hr
  refine ⟨_, (pss_cons (ps_set (i := 3) nd rfl (Or.inr rfl) (pe_lst (pa_cons pe_int (pa_cons pe_int (pa_cons pe_int (pa_cons pe_int (pa_cons pe_int (pa_cons pe_int pa_nil))))))))
      (pss_cons (ps_set (i := 4) nd rfl (Or.inl rfl) (pe_callS G_l_pick (hr.mono (by decide)) (by rfl) T.g_l_pick T.F_l_pick.kp T.d_l_pick (fun σ => passAt (takes_of rfl rfl rfl rfl) σ) (pa_cons (pv 0) (pa_cons pe_int (pa_cons (pe_op op_add (pv 1) pe_int) pa_nil)))))
      (pss_cons (ps_setLc (i := 6) (own := [("_law_k", 5)]) (by rfl) nd rfl rfl (sw_true rfl rfl rfl (by decide +kernel)) (pi_range1 (by rfl) T.b_range (pa_cons (pv 4) pa_nil)) (blkOk_by (own := [("_law_k", 5)]) (N := N_l_web) (sc := defScope s_l_web) (by decide +kernel)) (fun _ _ _ _ _ => (pg_name (i := 5) nd rfl (Or.inl rfl))) (fun _ _ _ _ _ => pts_nil) (fun _ _ _ _ _ => (pe_ix (ix_lK K) (pv 3) (pe_callS G_l_pick (hr.mono (by decide)) (by rfl) T.g_l_pick T.F_l_pick.kp T.d_l_pick (fun σ => passFS σ) (pa_cons (pv 0) (pa_cons (pe_op op_add pe_int (pv 5)) (pa_cons pe_int pa_nil)))) (fun _ _ => rfl))))
      (pss_cons (ps_set (i := 7) nd rfl (Or.inl rfl) (pe_lst pa_nil))
      (pss_cons (ps_for (passes_of rfl) rfl (pi_range1 (by rfl) T.b_range (pa_cons (pe_callS G_l_pick (hr.mono (by decide)) (by rfl) T.g_l_pick T.F_l_pick.kp T.d_l_pick (fun σ => passAt (takes_of rfl rfl rfl rfl) σ) (pa_cons (pv 0) (pa_cons pe_int (pa_cons (pe_op op_add (pv 2) pe_int) pa_nil)))) pa_nil)) (pg_name (i := 5) nd rfl (Or.inl rfl))
        (pss_one (ps_if (pt_cmpR op_gt (pv 4) pe_int (nomark _))
        (pss_cons (ps_set (i := 8) nd rfl (Or.inl rfl) (pe_op op_add (pe_op op_add pe_int (pv 4)) (pe_op op_mul pe_int (pv 5))))
      (pss_cons (ps_set (i := 9) nd rfl (Or.inl rfl) (pe_callS G_l_pick (hr.mono (by decide)) (by rfl) T.g_l_pick T.F_l_pick.kp T.d_l_pick (fun σ => passAt (takes_of rfl rfl rfl rfl) σ) (pa_cons (pv 0) (pa_cons (pv 8) (pa_cons (pv 4) pa_nil)))))
      (pss_cons (ps_set (i := 10) nd rfl (Or.inl rfl) (pe_callS G_l_pick (hr.mono (by decide)) (by rfl) T.g_l_pick T.F_l_pick.kp T.d_l_pick (fun σ => passAt (takes_of rfl rfl rfl rfl) σ) (pa_cons (pv 0) (pa_cons (pe_op op_add (pv 8) pe_int) (pa_cons (pv 4) pa_nil)))))
      (pss_cons (ps_set (i := 11) nd rfl (Or.inl rfl) (pe_callS G_l_pick (hr.mono (by decide)) (by rfl) T.g_l_pick T.F_l_pick.kp T.d_l_pick (fun σ => passAt (takes_of rfl rfl rfl rfl) σ) (pa_cons (pv 0) (pa_cons (pe_op op_add (pv 8) pe_int) (pa_cons (pe_ix (ix_lK K) (pv 6) (pv 9) (fun _ _ => rfl)) pa_nil)))))
      (pss_one (ps_expr (bm_K K PySem.F.plainAttrs_list PySem.F.slot_list_append PySem.F.type_list_append mt_append (pv 7) (pa_cons (pe_tup (pa_cons (pv 9) (pa_cons (pv 11) (pa_cons (pv 10) (pa_cons (pe_callS G_l_pick (hr.mono (by decide)) (by rfl) T.g_l_pick T.F_l_pick.kp T.d_l_pick (fun σ => passAt (takes_of rfl rfl rfl rfl) σ) (pa_cons (pv 0) (pa_cons (pe_op op_add (pv 8) pe_int) (pa_cons (pe_ix (ix_lK K) (pv 6) (pv 10) (fun _ _ => rfl)) pa_nil)))) pa_nil))))) pa_nil))))))))
        pss_nil)))
      (pss_one (ps_ret (pe_tup (pa_cons (pv 6) (pa_cons (pv 7) pa_nil)))))))))), ?_⟩
  try dsimp only [cxOf]
  obtain ⟨draws_here, most_places, most_ties, nb, h⟩ := h
  refine Zm.body (js := [0, 1, 2, 3, 4, 5, 6, 7, 8, 9, 10, 11]) (m := l_web_m draws_here most_places most_ties) nb h ?_
  refine zm_to (Γ2 := [(.val (dList (d := dInt)) draws_here), (.val dInt most_places), (.val dInt most_ties), .no, .no, .no, .no, .no, .no, .no, .no, .no]) rfl ?_
  delta l_web_m
  refine zm_set (i := 3) rfl (by decide) (we_eq (we_o (oe_lstN (wle_cons we_int (wle_cons we_int (wle_cons we_int (wle_cons we_int (wle_cons we_int (wle_cons we_int wle_nil)))))) (asLenS (asLenS (asLenS (asLenS (asLenS (asLenS asLen0)))))) (by decide))) rfl) fun menu_1 => ?_
  refine zm_set (i := 4) rfl (by decide) (we_eq (we_call3 hs_l_pick rfl (we_var rfl) we_int (we_add (re_w (we_var rfl)) (re_w we_int))) rfl) fun many_2 => ?_
  refine zm_setO (i := 6) rfl (by decide) (oe_eq (oe_lc (tg_name' (by decide)) (ic_range (re_w (we_var rfl))) fun x3 => (a_name rfl ⟨te_yes, (we_ix (we_var rfl) (re_w (we_call3 hs_l_pick rfl (we_var rfl) (we_add (re_w we_int) (re_w (we_var rfl))) we_int)))⟩)) rfl) fun sides_5 => ?_
  refine zm_setO (i := 7) rfl (by decide) (oe_eq (oe_lst0 (d := (dT4 (d1 := dInt) (d2 := dInt) (d3 := dInt) (d4 := dInt)))) rfl) fun ties_6 => ?_
  refine zm_for [5, 8, 9, 10, 11] (fun s7 => [(.val (dList (d := dInt)) draws_here), (.val dInt most_places), (.val dInt most_ties), (.val (dList (d := dInt)) menu_1), (.val dInt many_2), .no, (.own (dList (d := dInt)) (oList (d := dInt)) none sides_5), (.own (dList (d := (dT4 (d1 := dInt) (d2 := dInt) (d3 := dInt) (d4 := dInt)))) (oList (d := (dT4 (d1 := dInt) (d2 := dInt) (d3 := dInt) (d4 := dInt)))) none s7), .no, .no, .no, .no]) ties_6 (wlen 12 (by exact rfl) (by exact rfl) (by decide)) rfl (fun _ => (wlen 12 (by exact rfl) (by exact rfl) (by decide))) (ie_eq (ie_range (re_w (we_call3 hs_l_pick rfl (we_var rfl) we_int (we_add (re_w (we_var rfl)) (re_w we_int))))) rfl) (fun s7 x9 => (a_name rfl ⟨(wlen 12 (by exact rfl) (by exact rfl) (by decide)), ?_⟩)) fun s18 => ?_
  · refine zm_last ?_
    refine zm_ifP (te_eq (te_test (we_gt (re_w (we_var rfl)) (re_w we_int))) rfl) ?_ ?_
    · refine zm_assoc ?_
      refine zm_set (i := 8) rfl (by decide) (we_eq (we_add (re_w (we_add (re_w we_int) (re_w (we_var rfl)))) (re_w (we_mulCl (re_w we_int) (re_w (we_var rfl))))) rfl) fun at__10 => ?_
      refine zm_assoc ?_
      refine zm_set (i := 9) rfl (by decide) (we_eq (we_call3 hs_l_pick rfl (we_var rfl) (we_var rfl) (we_var rfl)) rfl) fun one_11 => ?_
      refine zm_assoc ?_
      refine zm_set (i := 10) rfl (by decide) (we_eq (we_call3 hs_l_pick rfl (we_var rfl) (we_add (re_w (we_var rfl)) (re_w we_int)) (we_var rfl)) rfl) fun other_12 => ?_
      refine zm_assoc ?_
      refine zm_set (i := 11) rfl (by decide) (we_eq (we_call3 hs_l_pick rfl (we_var rfl) (we_add (re_w (we_var rfl)) (re_w we_int)) (we_ixO rfl (re_w (we_var rfl)))) rfl) fun side_14 => ?_
      refine zm_append (i := 7) rfl (by decide) (we_eq (we_tup4 (we_var rfl) (we_var rfl) (we_var rfl) (we_call3 hs_l_pick rfl (we_var rfl) (we_add (re_w (we_var rfl)) (re_w we_int)) (we_ixO rfl (re_w (we_var rfl))))) rfl) fun ties_17 => ?_
      exact zm_nextL rfl
    · refine zm_skip ?_
      exact zm_nextL rfl
  · refine zm_last ?_
    exact zm_retP (i := 6) (j := 7) rfl rfl rfl
end K13

namespace K13
open PySem L2 G PM
set_option maxHeartbeats 4000000 in
theorem ok_l_faced {P : Program} {w : World} {K : PySem.W.Frag} {mg : Str → Option Value} {base : Heap} (T : Txt K mg) (G_l_pick : FnOk P w K mg base (L2.CX P w) 1 T.a_l_pick T.f_l_pick ["_law_draws_here", "_law_k", "_law_many"] (sp_l_pick ⟨P, w, K⟩ T.A)) : FnOk P w K mg base (L2.CX P w) 2 T.a_l_faced T.f_l_faced ["_law_draws_here", "_law_most_places", "_law_most_ties"] (sp_l_faced ⟨P, w, K⟩ T.A) := by
  have nd := sc_l_faced.nd
  refine T.F_l_faced.okX sc_l_faced (fun vs H Q E h => ?_) (fun cdv A outer s H vs Q E hr h => ?_)
  · exact sp_l_faced_len h
  have hu := hu_of hr
  refine ⟨_, (pss_cons (ps_set (i := 3) nd rfl (Or.inl rfl) (pe_lst (pa_cons pe_int (pa_cons pe_int (pa_cons pe_int (pa_cons pe_int (pa_cons pe_int (pa_cons pe_int pa_nil))))))))
      (pss_cons (ps_set (i := 4) nd rfl (Or.inl rfl) (pe_op op_add pe_int (pe_callS G_l_pick (hr.mono (by decide)) (by rfl) T.g_l_pick T.F_l_pick.kp T.d_l_pick (fun σ => passAt (takes_of rfl rfl rfl rfl) σ) (pa_cons (pv 0) (pa_cons pe_int (pa_cons (pv 1) pa_nil))))))
      (pss_cons (ps_set (i := 5) nd rfl (Or.inl rfl) (pe_lst pa_nil))
      (pss_cons (ps_set (i := 6) nd rfl (Or.inl rfl) (pe_lst pa_nil))
      (pss_cons (ps_for (passes_of rfl) rfl (pi_range1 (by rfl) T.b_range (pa_cons (pv 4) pa_nil)) (pg_name (i := 7) nd rfl (Or.inl rfl))
        (pss_cons (ps_set (i := 8) nd rfl (Or.inl rfl) (pe_ix (ix_lK K) (pv 3) (pe_callS G_l_pick (hr.mono (by decide)) (by rfl) T.g_l_pick T.F_l_pick.kp T.d_l_pick (fun σ => passAt (takes_of rfl rfl rfl rfl) σ) (pa_cons (pv 0) (pa_cons (pe_op op_add pe_int (pe_op op_mul pe_int (pv 7))) (pa_cons pe_int pa_nil)))) (fun _ _ => rfl)))
      (pss_cons (ps_set (i := 9) nd rfl (Or.inl rfl) (pe_callS G_l_pick (hr.mono (by decide)) (by rfl) T.g_l_pick T.F_l_pick.kp T.d_l_pick (fun σ => passAt (takes_of rfl rfl rfl rfl) σ) (pa_cons (pv 0) (pa_cons (pe_op op_add pe_int (pe_op op_mul pe_int (pv 7))) (pa_cons (pv 8) pa_nil)))))
      (pss_cons (ps_expr (bm_K K PySem.F.plainAttrs_list PySem.F.slot_list_append PySem.F.type_list_append mt_append (pv 5) (pa_cons (pv 8) pa_nil)))
      (pss_one (ps_expr (bm_K K PySem.F.plainAttrs_list PySem.F.slot_list_append PySem.F.type_list_append mt_append (pv 6) (pa_cons (pe_tup (pa_cons (pv 9) (pa_cons (pe_op op_mod (pe_callTy call_int1 (by rfl) T.b_int (by decide +kernel) (pa_cons (pe_op op_add (pe_op op_add (pv 9) pe_int) (pe_callS G_l_pick (hr.mono (by decide)) (by rfl) T.g_l_pick T.F_l_pick.kp T.d_l_pick (fun σ => passAt (takes_of rfl rfl rfl rfl) σ) (pa_cons (pv 0) (pa_cons (pe_op op_add pe_int (pe_op op_mul pe_int (pv 7))) (pa_cons (pe_op op_sub (pv 8) pe_int) pa_nil))))) pa_nil)) (pv 8)) pa_nil))) pa_nil))))))))
      (pss_cons (ps_set (i := 10) nd rfl (Or.inl rfl) (pe_lst pa_nil))
      (pss_cons (ps_set (i := 11) nd rfl (Or.inl rfl) (pe_lst pa_nil))
      (pss_cons (ps_for (passes_of rfl) rfl (pi_range1 (by rfl) T.b_range (pa_cons (pe_callS G_l_pick (hr.mono (by decide)) (by rfl) T.g_l_pick T.F_l_pick.kp T.d_l_pick (fun σ => passAt (takes_of rfl rfl rfl rfl) σ) (pa_cons (pv 0) (pa_cons pe_int (pa_cons (pe_op op_add (pv 2) pe_int) pa_nil)))) pa_nil)) (pg_name (i := 7) nd rfl (Or.inl rfl))
        (pss_cons (ps_set (i := 12) nd rfl (Or.inl rfl) (pe_op op_add (pe_op op_add pe_int (pe_op op_mul pe_int (pv 4))) (pe_op op_mul pe_int (pv 7))))
      (pss_cons (ps_set (i := 13) nd rfl (Or.inl rfl) (pe_callS G_l_pick (hr.mono (by decide)) (by rfl) T.g_l_pick T.F_l_pick.kp T.d_l_pick (fun σ => passAt (takes_of rfl rfl rfl rfl) σ) (pa_cons (pv 0) (pa_cons (pv 12) (pa_cons (pv 4) pa_nil)))))
      (pss_cons (ps_set (i := 14) nd rfl (Or.inl rfl) (pe_callS G_l_pick (hr.mono (by decide)) (by rfl) T.g_l_pick T.F_l_pick.kp T.d_l_pick (fun σ => passAt (takes_of rfl rfl rfl rfl) σ) (pa_cons (pv 0) (pa_cons (pe_op op_add (pv 12) pe_int) (pa_cons (pv 4) pa_nil)))))
      (pss_one (ps_if (pt_cmpR op_eq (pe_callS G_l_pick (hr.mono (by decide)) (by rfl) T.g_l_pick T.F_l_pick.kp T.d_l_pick (fun σ => passAt (takes_of rfl rfl rfl rfl) σ) (pa_cons (pv 0) (pa_cons (pe_op op_add (pv 12) pe_int) (pa_cons pe_int pa_nil)))) pe_int (nomark _))
        (pss_cons (ps_expr (bm_K K PySem.F.plainAttrs_list PySem.F.slot_list_append PySem.F.type_list_append mt_append (pv 10) (pa_cons (pe_tup (pa_cons (pv 13) (pa_cons (pe_ix (ix_tK K) (pe_ix (ix_lK K) (pv 6) (pv 13) (fun _ _ => rfl)) pe_int (fun _ _ => rfl)) (pa_cons (pv 14) (pa_cons (pe_ix (ix_tK K) (pe_ix (ix_lK K) (pv 6) (pv 14) (fun _ _ => rfl)) pe_int (fun _ _ => rfl)) pa_nil))))) pa_nil)))
      (pss_one (ps_expr (bm_K K PySem.F.plainAttrs_list PySem.F.slot_list_append PySem.F.type_list_append mt_append (pv 11) (pa_cons pe_int pa_nil)))))
        (pss_cons (ps_expr (bm_K K PySem.F.plainAttrs_list PySem.F.slot_list_append PySem.F.type_list_append mt_append (pv 10) (pa_cons (pe_tup (pa_cons (pv 14) (pa_cons (pe_ix (ix_tK K) (pe_ix (ix_lK K) (pv 6) (pv 14) (fun _ _ => rfl)) pe_int (fun _ _ => rfl)) (pa_cons (pv 13) (pa_cons (pe_ix (ix_tK K) (pe_ix (ix_lK K) (pv 6) (pv 13) (fun _ _ => rfl)) pe_int (fun _ _ => rfl)) pa_nil))))) pa_nil)))
      (pss_one (ps_expr (bm_K K PySem.F.plainAttrs_list PySem.F.slot_list_append PySem.F.type_list_append mt_append (pv 11) (pa_cons pe_int pa_nil)))))))))))
      (pss_one (ps_ret (pe_tup (pa_cons (pv 5) (pa_cons (pv 10) (pa_cons (pv 11) pa_nil)))))))))))))), ?_⟩
  try dsimp only [cxOf]
  obtain ⟨draws_here, most_places, most_ties, nb, h⟩ := h
  refine Zm.body (js := [0, 1, 2, 3, 4, 5, 6, 7, 8, 9, 10, 11, 12, 13, 14]) (m := l_faced_m draws_here most_places most_ties) nb h ?_
  refine zm_to (Γ2 := [(.val (dList (d := dInt)) draws_here), (.val dInt most_places), (.val dInt most_ties), .no, .no, .no, .no, .no, .no, .no, .no, .no, .no, .no, .no]) rfl ?_
  delta l_faced_m
  refine zm_set (i := 3) rfl (by decide) (we_eq (we_o (oe_lstN (wle_cons we_int (wle_cons we_int (wle_cons we_int (wle_cons we_int (wle_cons we_int (wle_cons we_int wle_nil)))))) (asLenS (asLenS (asLenS (asLenS (asLenS (asLenS asLen0)))))) (by decide))) rfl) fun menu_1 => ?_
  refine zm_set (i := 4) rfl (by decide) (we_eq (we_add (re_w we_int) (re_w (we_call3 hs_l_pick rfl (we_var rfl) we_int (we_var rfl)))) rfl) fun many_3 => ?_
  refine zm_setO (i := 5) rfl (by decide) (oe_eq (oe_lst0 (d := dInt)) rfl) fun sides_4 => ?_
  refine zm_setO (i := 6) rfl (by decide) (oe_eq (oe_lst0 (d := (dPair (d1 := dInt) (d2 := dInt)))) rfl) fun gates_5 => ?_
  refine zm_for [7, 8, 9] (fun s6 => [(.val (dList (d := dInt)) draws_here), (.val dInt most_places), (.val dInt most_ties), (.val (dList (d := dInt)) menu_1), (.val dInt many_3), (.own (dList (d := dInt)) (oList (d := dInt)) none s6.1), (.own (dList (d := (dPair (d1 := dInt) (d2 := dInt)))) (oList (d := (dPair (d1 := dInt) (d2 := dInt)))) none s6.2), .no, .no, .no, .no, .no, .no, .no, .no]) (sides_4, gates_5) (wlen 15 (by exact rfl) (by exact rfl) (by decide)) rfl (fun _ => (wlen 15 (by exact rfl) (by exact rfl) (by decide))) (ie_eq (ie_range (re_w (we_var rfl))) rfl) (fun s6 x7 => (a_name rfl ⟨(wlen 15 (by exact rfl) (by exact rfl) (by decide)), ?_⟩)) fun s16 => ?_
  · refine zm_set (i := 8) rfl (by decide) (we_eq (we_ix (we_var rfl) (re_w (we_call3 hs_l_pick rfl (we_var rfl) (we_add (re_w we_int) (re_w (we_mulCl (re_w we_int) (re_w (we_var rfl))))) we_int))) rfl) fun count_9 => ?_
    refine zm_set (i := 9) rfl (by decide) (we_eq (we_call3 hs_l_pick rfl (we_var rfl) (we_add (re_w we_int) (re_w (we_mulCl (re_w we_int) (re_w (we_var rfl))))) (we_var rfl)) rfl) fun out_10 => ?_
    refine zm_append (i := 5) rfl (by decide) (we_eq (we_var rfl) rfl) fun sides_11 => ?_
    refine zm_last ?_
    refine zm_append (i := 6) rfl (by decide) (we_eq (we_tup2 (we_var rfl) (we_mod (re_w (we_int1 (re_w (we_add (re_w (we_add (re_w (we_var rfl)) (re_w we_int))) (re_w (we_call3 hs_l_pick rfl (we_var rfl) (we_add (re_w we_int) (re_w (we_mulCl (re_w we_int) (re_w (we_var rfl))))) (we_sub (re_w (we_var rfl)) (re_w we_int)))))))) (re_w (we_var rfl)))) rfl) fun gates_15 => ?_
    exact zm_nextL rfl
  · refine zm_setO (i := 10) rfl (by decide) (oe_eq (oe_lst0 (d := (dT4 (d1 := dInt) (d2 := dInt) (d3 := dInt) (d4 := dInt)))) rfl) fun ties_17 => ?_
    refine zm_setO (i := 11) rfl (by decide) (oe_eq (oe_lst0 (d := dInt)) rfl) fun directions_18 => ?_
    refine zm_for [7, 12, 13, 14] (fun s19 => [(.val (dList (d := dInt)) draws_here), (.val dInt most_places), (.val dInt most_ties), (.val (dList (d := dInt)) menu_1), (.val dInt many_3), (.own (dList (d := dInt)) (oList (d := dInt)) none s16.1), (.own (dList (d := (dPair (d1 := dInt) (d2 := dInt)))) (oList (d := (dPair (d1 := dInt) (d2 := dInt)))) none s16.2), .no, .no, .no, (.own (dList (d := (dT4 (d1 := dInt) (d2 := dInt) (d3 := dInt) (d4 := dInt)))) (oList (d := (dT4 (d1 := dInt) (d2 := dInt) (d3 := dInt) (d4 := dInt)))) none s19.1), (.own (dList (d := dInt)) (oList (d := dInt)) none s19.2), .no, .no, .no]) (ties_17, directions_18) (wlen 15 (by exact rfl) (by exact rfl) (by decide)) rfl (fun _ => (wlen 15 (by exact rfl) (by exact rfl) (by decide))) (ie_eq (ie_range (re_w (we_call3 hs_l_pick rfl (we_var rfl) we_int (we_add (re_w (we_var rfl)) (re_w we_int))))) rfl) (fun s19 x21 => (a_name rfl ⟨(wlen 15 (by exact rfl) (by exact rfl) (by decide)), ?_⟩)) fun s39 => ?_
    · refine zm_set (i := 12) rfl (by decide) (we_eq (we_add (re_w (we_add (re_w we_int) (re_w (we_mulCl (re_w we_int) (re_w (we_var rfl)))))) (re_w (we_mulCl (re_w we_int) (re_w (we_var rfl))))) rfl) fun at__22 => ?_
      refine zm_set (i := 13) rfl (by decide) (we_eq (we_call3 hs_l_pick rfl (we_var rfl) (we_var rfl) (we_var rfl)) rfl) fun one_23 => ?_
      refine zm_set (i := 14) rfl (by decide) (we_eq (we_call3 hs_l_pick rfl (we_var rfl) (we_add (re_w (we_var rfl)) (re_w we_int)) (we_var rfl)) rfl) fun other_24 => ?_
      refine zm_last ?_
      refine zm_if (te_eq (te_test (we_eqS (re_w (we_call3 hs_l_pick rfl (we_var rfl) (we_add (re_w (we_var rfl)) (re_w we_int)) we_int)) (re_w we_int))) rfl) ?_ ?_
      · refine zm_assoc ?_
        refine zm_append (i := 10) rfl (by decide) (we_eq (we_tup4 (we_var rfl) (we_fst (we_ixO rfl (re_w (we_var rfl)))) (we_var rfl) (we_snd (we_ixO rfl (re_w (we_var rfl))))) rfl) fun ties_30 => ?_
        refine zm_append (i := 11) rfl (by decide) (we_eq we_int rfl) fun directions_31 => ?_
        exact zm_nextL rfl
      · refine zm_assoc ?_
        refine zm_append (i := 10) rfl (by decide) (we_eq (we_tup4 (we_var rfl) (we_snd (we_ixO rfl (re_w (we_var rfl)))) (we_var rfl) (we_fst (we_ixO rfl (re_w (we_var rfl))))) rfl) fun ties_36 => ?_
        refine zm_append (i := 11) rfl (by decide) (we_eq we_int rfl) fun directions_37 => ?_
        exact zm_nextL rfl
    · refine zm_last ?_
      exact zm_retT3V (i := 5) (j := 10) (m := 11) rfl rfl rfl rfl rfl rfl
end K13

namespace K13
open PySem L2 G PM
set_option maxHeartbeats 4000000 in
theorem ok_p_check_end {P : Program} {w : World} {K : PySem.W.Frag} {mg : Str → Option Value} {base : Heap} (T : Txt K mg) (G_x_UnknownPlace : FnOk P w K mg base (L2.CX P w) 1 T.i_UnknownPlace T.fx_UnknownPlace ["self", "place"] (spX1 (T.A.tx .UnknownPlace) "place")) (G_x_UnknownSide : FnOk P w K mg base (L2.CX P w) 1 T.i_UnknownSide T.fx_UnknownSide ["self", "place", "side"] (spX2 (T.A.tx .UnknownSide) "place" "side")) : FnOk P w K mg base (L2.CX P w) 3 T.a_p_check_end T.f_p_check_end ["sides", "place", "side"] (sp_p_check_end ⟨P, w, K⟩ T.A) := by
  have nd := sc_p_check_end.nd
  refine T.F_p_check_end.okX sc_p_check_end (fun vs H Q E h => ?_) (fun cdv A outer s H vs Q E hr h => ?_)
  · exact sp_p_check_end_len h
  have hu := hu_of hr
  refine ⟨_, (pss_cons (ps_if (PW.pt (pw_or (pt_cmpR op_lt (pv 1) pe_int (nomark _)) (pw_or1 (pt_cmpR op_ge (pv 1) (pe_callB (len_K K) (by rfl) T.b_len (by decide +kernel) (pa_cons (pv 0) pa_nil)) (nomark _)))))
        (pss_one (ps_raise rfl (takes_of rfl rfl rfl rfl) (pmk_oex T.x_UnknownPlace.T T.x_UnknownPlace.init T.x_UnknownPlace.fn G_x_UnknownPlace (hr.mono (by decide)) T.dx_UnknownPlace .nil passF (by rfl) T.g_UnknownPlace (pa_cons (pv 1) pa_nil))))
        pss_nil)
      (pss_one (ps_if (PW.pt (pw_or (pt_cmpR op_lt (pv 2) pe_int (nomark _)) (pw_or1 (pt_cmpR op_ge (pv 2) (pe_ix (ix_lK K) (pv 0) (pv 1) (fun _ _ => rfl)) (nomark _)))))
        (pss_one (ps_raise rfl (takes_of rfl rfl rfl rfl) (pmk_oex T.x_UnknownSide.T T.x_UnknownSide.init T.x_UnknownSide.fn G_x_UnknownSide (hr.mono (by decide)) T.dx_UnknownSide .nil passF (by rfl) T.g_UnknownSide (pa_cons (pv 1) (pa_cons (pv 2) pa_nil)))))
        pss_nil))), ?_⟩
  try dsimp only [cxOf]
  obtain ⟨sides, place, side, nb, h⟩ := h
  refine Zm.body (js := [0, 1, 2]) (m := p_check_end_m sides place side) nb h ?_
  refine zm_to (Γ2 := [(.val (dList (d := dInt)) sides), (.val dInt place), (.val dInt side)]) rfl ?_
  delta p_check_end_m
  refine zm_ifP (te_eq (te_orP (te_test (we_lt (re_w (we_var rfl)) (re_w we_int))) (te_test (we_ge (re_w (we_var rfl)) (re_w (we_len (re_w (we_var rfl))))))) rfl) ?_ ?_
  · exact zm_raise1 rfl rfl (re_eq (re_w (we_var rfl)) rfl)
  · refine zm_skip ?_
    refine zm_last ?_
    refine zm_if (te_eq (te_or (te_test (we_lt (re_w (we_var rfl)) (re_w we_int))) (te_test (we_ge (re_w (we_var rfl)) (re_w (we_ix (we_var rfl) (re_w (we_var rfl))))))) rfl) ?_ ?_
    · exact zm_raise2 rfl rfl (re_eq (re_w (we_var rfl)) rfl) (re_eq (re_w (we_var rfl)) rfl)
    · refine zm_skip ?_
      exact zm_end
end K13

namespace K13
open PySem L2 G PM
set_option maxHeartbeats 4000000 in
theorem ok_m_WebX_initX {P : Program} {w : World} {K : PySem.W.Frag} {mg : Str → Option Value} {base : Heap} (T : Txt K mg) (G_p_check_end : FnOk P w K mg base (L2.CX P w) 3 T.a_p_check_end T.f_p_check_end ["sides", "place", "side"] (sp_p_check_end ⟨P, w, K⟩ T.A)) (G_x_BadSides : FnOk P w K mg base (L2.CX P w) 1 T.i_BadSides T.fx_BadSides ["self", "place"] (spX1 (T.A.tx .BadSides) "place")) (G_x_TooLarge : FnOk P w K mg base (L2.CX P w) 1 T.i_TooLarge T.fx_TooLarge ["self", "limit"] (spX1 (T.A.tx .TooLarge) "limit")) : FnOk P w K mg base (L2.CX P w) 4 T.a_m_WebX_initX T.f_m_WebX_initX ["self", "sides", "ties"] (sp_m_WebX_initX ⟨P, w, K⟩ T.A) := by
  have nd := sc_m_WebX_initX.nd
  refine T.F_m_WebX_initX.okX sc_m_WebX_initX (fun vs H Q E h => ?_) (fun cdv A outer s H vs Q E hr h => ?_)
  · exact sp_m_WebX_initX_len h
  have hu := hu_of hr
  refine ⟨_, (pss_cons (ps_if (pt_cmpR op_gt (pe_callB (len_K K) (by rfl) T.b_len (by decide +kernel) (pa_cons (pv 1) pa_nil)) (con_K K (pv 0) rfl) (nomark _))
        (pss_one (ps_raise rfl (takes_of rfl rfl rfl rfl) (pmk_oex T.x_TooLarge.T T.x_TooLarge.init T.x_TooLarge.fn G_x_TooLarge (hr.mono (by decide)) T.dx_TooLarge .nil passF (by rfl) T.g_TooLarge (pa_cons (con_K K (pv 0) rfl) pa_nil))))
        pss_nil)
      (pss_cons (ps_if (pt_cmpR op_gt (pe_callB (len_K K) (by rfl) T.b_len (by decide +kernel) (pa_cons (pv 2) pa_nil)) (con_K K (pv 0) rfl) (nomark _))
        (pss_one (ps_raise rfl (takes_of rfl rfl rfl rfl) (pmk_oex T.x_TooLarge.T T.x_TooLarge.init T.x_TooLarge.fn G_x_TooLarge (hr.mono (by decide)) T.dx_TooLarge .nil passF (by rfl) T.g_TooLarge (pa_cons (con_K K (pv 0) rfl) pa_nil))))
        pss_nil)
      (pss_cons (ps_for (passes_of rfl) rfl (pi_enum (by rfl) T.b_enumerate (pa_cons (pv 1) pa_nil)) (pg_tupK (n := 2) K (by rfl) (pgs_cons (pg_name (i := 3) nd rfl (Or.inl rfl)) (pgs_cons (pg_name (i := 4) nd rfl (Or.inl rfl)) pgs_nil)))
        (pss_one (ps_if (PW.pt (pw_or (pt_cmpR op_lt (pv 4) pe_int (nomark _)) (pw_or1 (pt_cmpR op_gt (pv 4) (con_K K (pv 0) rfl) (nomark _)))))
        (pss_one (ps_raise rfl (takes_of rfl rfl rfl rfl) (pmk_oex T.x_BadSides.T T.x_BadSides.init T.x_BadSides.fn G_x_BadSides (hr.mono (by decide)) T.dx_BadSides .nil passF (by rfl) T.g_BadSides (pa_cons (pv 3) pa_nil))))
        pss_nil)))
      (pss_cons (ps_for (passes_of rfl) rfl (pi_lK K (pv 2)) (pg_tupK (n := 4) K (by rfl) (pgs_cons (pg_name (i := 5) nd rfl (Or.inl rfl)) (pgs_cons (pg_name (i := 6) nd rfl (Or.inl rfl)) (pgs_cons (pg_name (i := 7) nd rfl (Or.inl rfl)) (pgs_cons (pg_name (i := 8) nd rfl (Or.inl rfl)) pgs_nil)))))
        (pss_cons (ps_expr (pe_callS G_p_check_end (hr.mono (by decide)) (by rfl) T.g_p_check_end T.F_p_check_end.kp T.d_p_check_end (fun σ => passAt (takes_of rfl rfl rfl rfl) σ) (pa_cons (pv 1) (pa_cons (pv 5) (pa_cons (pv 6) pa_nil)))))
      (pss_one (ps_expr (pe_callS G_p_check_end (hr.mono (by decide)) (by rfl) T.g_p_check_end T.F_p_check_end.kp T.d_p_check_end (fun σ => passAt (takes_of rfl rfl rfl rfl) σ) (pa_cons (pv 1) (pa_cons (pv 7) (pa_cons (pv 8) pa_nil))))))))
      (pss_cons (ps_fld (pv 0) (pe_callTy (tuple_K K) (by rfl) T.b_tuple (by decide +kernel) (pa_cons (pv 1) pa_nil)) rfl)
      (pss_one (ps_fld (pv 0) (pe_callTy (tuple_K K) (by rfl) T.b_tuple (by decide +kernel) (pa_cons (pe_lc (own := [("one", 5), ("side", 6), ("other", 7), ("far_side", 8)]) (by rfl) nd (pi_lB K (pv 2)) (blkOk_by (own := [("one", 5), ("side", 6), ("other", 7), ("far_side", 8)]) (N := N_m_WebX_initX) (sc := defScope s_m_WebX_initX) (by decide +kernel)) (fun _ _ _ _ _ => (pg_tupK (n := 4) K (by rfl) (pgs_cons (pg_name (i := 5) nd rfl (Or.inl rfl)) (pgs_cons (pg_name (i := 6) nd rfl (Or.inl rfl)) (pgs_cons (pg_name (i := 7) nd rfl (Or.inl rfl)) (pgs_cons (pg_name (i := 8) nd rfl (Or.inl rfl)) pgs_nil)))))) (fun _ _ _ _ _ => pts_nil) (fun _ _ _ _ _ => (pe_tup (pa_cons (pv 5) (pa_cons (pv 6) (pa_cons (pv 7) (pa_cons (pv 8) pa_nil))))))) pa_nil)) rfl))))))), ?_⟩
  try dsimp only [cxOf]
  obtain ⟨sides, ties, nb, h⟩ := h
  refine Zm.bodyI (js := [0, 1, 2, 3, 4, 5, 6, 7, 8]) (m := m_WebX_initX_m sides ties) nb h fun pp => ?_
  generalize (⟨()⟩ : Ob0) = x0
  refine zm_to (Γ2 := [(.own (dOb0 (T.A.ob .Web)) (oOb0 (T.A.ob .Web)) (some (.ref pp)) x0), (.val (dList (d := dInt)) sides), (.val (dList (d := (dT4 (d1 := dInt) (d2 := dInt) (d3 := dInt) (d4 := dInt)))) ties), .no, .no, .no, .no, .no, .no]) rfl ?_
  delta m_WebX_initX_m
  refine zm_ifP (te_eq (te_test (we_gt (re_w (we_len (re_w (we_var rfl)))) (re_w (we_con isI0 T.c_Web T.k_Web_MOST_PLACES (by decide) (re_varO rfl))))) rfl) ?_ ?_
  · exact zm_raise1 rfl rfl (re_eq (re_w (we_con isI0 T.c_Web T.k_Web_MOST_PLACES (by decide) (re_varO rfl))) rfl)
  · refine zm_skip ?_
    refine zm_ifP (te_eq (te_test (we_gt (re_w (we_len (re_w (we_var rfl)))) (re_w (we_con isI0 T.c_Web T.k_Web_MOST_TIES (by decide) (re_varO rfl))))) rfl) ?_ ?_
    · exact zm_raise1 rfl rfl (re_eq (re_w (we_con isI0 T.c_Web T.k_Web_MOST_TIES (by decide) (re_varO rfl))) rfl)
    · refine zm_skip ?_
      refine zm_for [3, 4] (fun (_ : Unit) => [(.own (dOb0 (T.A.ob .Web)) (oOb0 (T.A.ob .Web)) (some (.ref pp)) x0), (.val (dList (d := dInt)) sides), (.val (dList (d := (dT4 (d1 := dInt) (d2 := dInt) (d3 := dInt) (d4 := dInt)))) ties), .no, .no, .no, .no, .no, .no]) () (wlen 9 (by exact rfl) (by exact rfl) (by decide)) rfl (fun _ => (wlen 9 (by exact rfl) (by exact rfl) (by decide))) (ie_eq (ie_enum (we_var rfl)) rfl) (fun _ x2 => (a_pair rfl (a_name rfl (a_name rfl ⟨(wlen 9 (by exact rfl) (by exact rfl) (by decide)), ?_⟩)))) fun _ => ?_
      · refine zm_last ?_
        refine zm_ifP (te_eq (te_orP (te_test (we_lt (re_w (we_var rfl)) (re_w we_int))) (te_test (we_gt (re_w (we_var rfl)) (re_w (we_con isI0 T.c_Web T.k_Web_MOST_SIDES (by decide) (re_varO rfl)))))) rfl) ?_ ?_
        · exact zm_raise1 rfl rfl (re_eq (re_w (we_var rfl)) rfl)
        · refine zm_skip ?_
          exact zm_nextL rfl
      · refine zm_for [5, 6, 7, 8] (fun (_ : Unit) => [(.own (dOb0 (T.A.ob .Web)) (oOb0 (T.A.ob .Web)) (some (.ref pp)) x0), (.val (dList (d := dInt)) sides), (.val (dList (d := (dT4 (d1 := dInt) (d2 := dInt) (d3 := dInt) (d4 := dInt)))) ties), .no, .no, .no, .no, .no, .no]) () (wlen 9 (by exact rfl) (by exact rfl) (by decide)) rfl (fun _ => (wlen 9 (by exact rfl) (by exact rfl) (by decide))) (ie_eq (ie_list (we_var rfl)) rfl) (fun _ x5 => (a_T4 rfl (a_name rfl (a_name rfl (a_name rfl (a_name rfl ⟨(wlen 9 (by exact rfl) (by exact rfl) (by decide)), ?_⟩)))))) fun _ => ?_
        · refine zm_drop (re_eq (re_w (we_call3 hs_p_check_end rfl (we_var rfl) (we_var rfl) (we_var rfl))) rfl) ?_
          refine zm_last ?_
          refine zm_drop (re_eq (re_w (we_call3 hs_p_check_end rfl (we_var rfl) (we_var rfl) (we_var rfl))) rfl) ?_
          exact zm_nextL rfl
        · refine zm_fld1 (i := 0) rfl (by decide) T.c_Web T.n_Web_sides (we_eq (we_tupOf (we_var rfl)) rfl) fun f_7 => ?_
          refine zm_last ?_
          refine zm_fld2 (i := 0) rfl (by decide) rfl T.c_Web T.n_Web_ties (we_eq (we_tupOf (we_o (oe_lc (tg_tup' (tgs_cons' (tg_name' (by decide)) (tgs_cons' (tg_name' (by decide)) (tgs_cons' (tg_name' (by decide)) (tgs_cons' (tg_name' (by decide)) tgs_nil'))))) (ic_list (we_var rfl)) fun x8 => (a_T4 rfl (a_name rfl (a_name rfl (a_name rfl (a_name rfl ⟨te_yes, (we_tup4 (we_var rfl) (we_var rfl) (we_var rfl) (we_var rfl))⟩)))))))) rfl) fun f_10 => ?_
          exact zm_endI rfl
end K13

namespace K13
open PySem L2 G PM
set_option maxHeartbeats 4000000 in
theorem ok_l_table {P : Program} {w : World} {K : PySem.W.Frag} {mg : Str → Option Value} {base : Heap} (T : Txt K mg) : FnOk P w K mg base (L2.CX P w) 1 T.a_l_table T.f_l_table ["_law_ties"] (sp_l_table ⟨P, w, K⟩ T.A) := by
  have nd := sc_l_table.nd
  refine T.F_l_table.okX sc_l_table (fun vs H Q E h => ?_) (fun cdv A outer s H vs Q E hr h => ?_)
  · exact sp_l_table_len h
  have hu := hu_of hr
  refine ⟨_, (pss_cons (ps_set (i := 1) nd rfl (Or.inl rfl) pe_dnewT)
      (pss_cons (ps_for (passes_of rfl) rfl (pi_range1 (by rfl) T.b_range (pa_cons (pe_callB (len_K K) (by rfl) T.b_len (by decide +kernel) (pa_cons (pv 0) pa_nil)) pa_nil)) (pg_name (i := 2) nd rfl (Or.inl rfl))
        (pss_one (ps_for (passes_of rfl) rfl (pi_range1 (by rfl) T.b_range (pa_cons pe_int pa_nil)) (pg_name (i := 3) nd rfl (Or.inl rfl))
        (pss_cons (ps_set (i := 4) nd rfl (Or.inl rfl) (pe_ix (ix_tK K) (pe_ix (ix_lK K) (pv 0) (pv 2) (fun _ _ => rfl)) (pe_op op_sub pe_int (pe_op op_mul pe_int (pv 3))) (fun _ _ => rfl)))
      (pss_cons (ps_set (i := 5) nd rfl (Or.inl rfl) (pe_ix (ix_tK K) (pe_ix (ix_lK K) (pv 0) (pv 2) (fun _ _ => rfl)) (pe_op op_sub pe_int (pe_op op_mul pe_int (pv 3))) (fun _ _ => rfl)))
      (pss_cons (ps_set (i := 6) nd rfl (Or.inl rfl) (pe_lst pa_nil))
      (pss_cons (ps_for (passes_of rfl) rfl (pi_range1 (by rfl) T.b_range (pa_cons (pe_callB (len_K K) (by rfl) T.b_len (by decide +kernel) (pa_cons (pv 0) pa_nil)) pa_nil)) (pg_name (i := 7) nd rfl (Or.inl rfl))
        (pss_one (ps_for (passes_of rfl) rfl (pi_range1 (by rfl) T.b_range (pa_cons pe_int pa_nil)) (pg_name (i := 8) nd rfl (Or.inl rfl))
        (pss_one (ps_if (PW.pt (pw_and (pt_cmpR op_eq (pe_ix (ix_tK K) (pe_ix (ix_lK K) (pv 0) (pv 7) (fun _ _ => rfl)) (pe_op op_mul pe_int (pv 8)) (fun _ _ => rfl)) (pv 4) (nomark _)) (pw_and1 (pt_cmpR op_ne (pe_ix (ix_tK K) (pe_ix (ix_lK K) (pv 0) (pv 7) (fun _ _ => rfl)) (pe_op op_add (pe_op op_mul pe_int (pv 8)) pe_int) (fun _ _ => rfl)) (pv 5) (nomark _)))))
        (pss_one (ps_expr (bm_K K PySem.F.plainAttrs_list PySem.F.slot_list_append PySem.F.type_list_append mt_append (pv 6) (pa_cons (pe_tup (pa_cons (pv 7) (pa_cons (pv 8) pa_nil))) pa_nil))))
        pss_nil)))))
      (pss_one (ps_dput hu (pv 1) (pe_tup (pa_cons (pv 2) (pa_cons (pv 3) pa_nil))) (pv 6) rfl)))))))))
      (pss_one (ps_lockP (ps_ret (pv 1)))))), ?_⟩
  try dsimp only [cxOf]
  obtain ⟨ties, nb, h⟩ := h
  refine Zm.body (js := [0, 1, 2, 3, 4, 5, 6, 7, 8]) (m := l_table_m ties) nb h ?_
  refine zm_to (Γ2 := [(.val (dList (d := (dT4 (d1 := dInt) (d2 := dInt) (d3 := dInt) (d4 := dInt)))) ties), .no, .no, .no, .no, .no, .no, .no, .no]) rfl ?_
  delta l_table_m
  refine zm_setO (i := 1) rfl (by decide) (oe_eq (oe_dictT0 (ky := kyPair) (d := (dList (d := (dPair (d1 := dInt) (d2 := dInt)))))) rfl) fun table_here_1 => ?_
  refine zm_for [2, 3, 4, 5, 6, 7, 8] (fun s2 => [(.val (dList (d := (dT4 (d1 := dInt) (d2 := dInt) (d3 := dInt) (d4 := dInt)))) ties), (.own (dDK (ky := kyPair) (d := (dList (d := (dPair (d1 := dInt) (d2 := dInt)))))) (oDK (ky := kyPair) (d := (dList (d := (dPair (d1 := dInt) (d2 := dInt)))))) none s2), .no, .no, .no, .no, .no, .no, .no]) table_here_1 (wlen 9 (by exact rfl) (by exact rfl) (by decide)) rfl (fun _ => (wlen 9 (by exact rfl) (by exact rfl) (by decide))) (ie_eq (ie_range (re_w (we_len (re_w (we_var rfl))))) rfl) (fun s2 x3 => (a_name rfl ⟨(wlen 9 (by exact rfl) (by exact rfl) (by decide)), ?_⟩)) fun s29 => ?_
  · refine zm_last ?_
    refine zm_for [3, 4, 5, 6, 7, 8] (fun s4 => [(.val (dList (d := (dT4 (d1 := dInt) (d2 := dInt) (d3 := dInt) (d4 := dInt)))) ties), (.own (dDK (ky := kyPair) (d := (dList (d := (dPair (d1 := dInt) (d2 := dInt)))))) (oDK (ky := kyPair) (d := (dList (d := (dPair (d1 := dInt) (d2 := dInt)))))) none s4), (.val dInt x3), .no, .no, .no, .no, .no, .no]) s2 (wlen 9 (by exact rfl) (by exact rfl) (by decide)) rfl (fun _ => (wlen 9 (by exact rfl) (by exact rfl) (by decide))) (ie_eq (ie_range (re_w we_int)) rfl) (fun s4 x5 => (a_name rfl ⟨(wlen 9 (by exact rfl) (by exact rfl) (by decide)), ?_⟩)) fun s27 => ?_
    · refine zm_set (i := 4) rfl (by decide) (we_eq (we_ix4 (we_ix (we_var rfl) (re_w (we_var rfl))) (re_w (we_sub (re_w we_int) (re_w (we_mulCl (re_w we_int) (re_w (we_var rfl))))))) rfl) fun place_7 => ?_
      refine zm_set (i := 5) rfl (by decide) (we_eq (we_ix4 (we_ix (we_var rfl) (re_w (we_var rfl))) (re_w (we_sub (re_w we_int) (re_w (we_mulCl (re_w we_int) (re_w (we_var rfl))))))) rfl) fun side_9 => ?_
      refine zm_setO (i := 6) rfl (by decide) (oe_eq (oe_lst0 (d := (dPair (d1 := dInt) (d2 := dInt)))) rfl) fun found_10 => ?_
      refine zm_for [7, 8] (fun s11 => [(.val (dList (d := (dT4 (d1 := dInt) (d2 := dInt) (d3 := dInt) (d4 := dInt)))) ties), (.own (dDK (ky := kyPair) (d := (dList (d := (dPair (d1 := dInt) (d2 := dInt)))))) (oDK (ky := kyPair) (d := (dList (d := (dPair (d1 := dInt) (d2 := dInt)))))) none s4), (.val dInt x3), (.val dInt x5), (.val dInt place_7), (.val dInt side_9), (.own (dList (d := (dPair (d1 := dInt) (d2 := dInt)))) (oList (d := (dPair (d1 := dInt) (d2 := dInt)))) none s11), .no, .no]) found_10 (wlen 9 (by exact rfl) (by exact rfl) (by decide)) rfl (fun _ => (wlen 9 (by exact rfl) (by exact rfl) (by decide))) (ie_eq (ie_range (re_w (we_len (re_w (we_var rfl))))) rfl) (fun s11 x12 => (a_name rfl ⟨(wlen 9 (by exact rfl) (by exact rfl) (by decide)), ?_⟩)) fun s24 => ?_
      · refine zm_last ?_
        refine zm_for [8] (fun s13 => [(.val (dList (d := (dT4 (d1 := dInt) (d2 := dInt) (d3 := dInt) (d4 := dInt)))) ties), (.own (dDK (ky := kyPair) (d := (dList (d := (dPair (d1 := dInt) (d2 := dInt)))))) (oDK (ky := kyPair) (d := (dList (d := (dPair (d1 := dInt) (d2 := dInt)))))) none s4), (.val dInt x3), (.val dInt x5), (.val dInt place_7), (.val dInt side_9), (.own (dList (d := (dPair (d1 := dInt) (d2 := dInt)))) (oList (d := (dPair (d1 := dInt) (d2 := dInt)))) none s13), (.val dInt x12), .no]) s11 (wlen 9 (by exact rfl) (by exact rfl) (by decide)) rfl (fun _ => (wlen 9 (by exact rfl) (by exact rfl) (by decide))) (ie_eq (ie_range (re_w we_int)) rfl) (fun s13 x14 => (a_name rfl ⟨(wlen 9 (by exact rfl) (by exact rfl) (by decide)), ?_⟩)) fun s22 => ?_
        · refine zm_last ?_
          refine zm_if (te_eq (te_and (te_test (we_eqS (re_w (we_ix4 (we_ix (we_var rfl) (re_w (we_var rfl))) (re_w (we_mulCl (re_w we_int) (re_w (we_var rfl)))))) (re_w (we_var rfl)))) (te_test (we_neS (re_w (we_ix4 (we_ix (we_var rfl) (re_w (we_var rfl))) (re_w (we_add (re_w (we_mulCl (re_w we_int) (re_w (we_var rfl)))) (re_w we_int))))) (re_w (we_var rfl))))) rfl) ?_ ?_
          · refine zm_append (i := 6) rfl (by decide) (we_eq (we_tup2 (we_var rfl) (we_var rfl)) rfl) fun found_20 => ?_
            exact zm_nextL rfl
          · refine zm_skip ?_
            exact zm_nextL rfl
        · exact zm_nextL rfl
      · refine zm_last ?_
        refine zm_frz 6 rfl (by decide) ?_
        refine zm_dputK (i := 1) rfl (by decide) (we_eq (we_var rfl) rfl) (re_eq (re_w (we_tup2 (we_var rfl) (we_var rfl))) rfl) fun table_here_25 => ?_
        exact zm_nextL rfl
    · exact zm_nextL rfl
  · refine zm_last ?_
    refine zm_lock 1 rfl (by decide) ?_
    exact zm_ret (we_eq (we_var rfl) rfl)
end K13

namespace K13
open PySem L2 G PM
set_option maxHeartbeats 4000000 in
theorem ok_l_labels {P : Program} {w : World} {K : PySem.W.Frag} {mg : Str → Option Value} {base : Heap} (T : Txt K mg) : FnOk P w K mg base (L2.CX P w) 1 T.a_l_labels T.f_l_labels ["_law_table_here", "_law_many"] (sp_l_labels ⟨P, w, K⟩ T.A) := by
  have nd := sc_l_labels.nd
  refine T.F_l_labels.okX sc_l_labels (fun vs H Q E h => ?_) (fun cdv A outer s H vs Q E hr h => ?_)
  · exact sp_l_labels_len h
  have hu := hu_of hr
  refine ⟨_, (pss_cons (ps_set (i := 2) nd rfl (Or.inl rfl) (pe_listRg rfl (by rfl) T.b_list (prg_1 (by rfl) T.b_range (pv 1))))
      (pss_cons (ps_for (passes_of rfl) rfl (pi_range1 (by rfl) T.b_range (pa_cons (pv 1) pa_nil)) (pg_name (i := 3) nd rfl (Or.inl rfl))
        (pss_one (ps_for (passes_of rfl) rfl (pi_keys (pv 0)) (pg_name (i := 4) nd rfl (Or.inl rfl))
        (pss_one (ps_for (passes_of rfl) rfl (pi_lK K (pe_dget hu (pv 0) (pv 4) (fun _ _ => rfl))) (pg_name (i := 5) nd rfl (Or.inl rfl))
        (pss_cons (ps_set (i := 6) nd rfl (Or.inl rfl) (pe_callB (call_min2 rfl) (by rfl) T.b_min (by decide +kernel) (pa_cons (pe_ix (ix_lK K) (pv 2) (pe_ix (ix_tK K) (pv 4) pe_int (fun _ _ => rfl)) (fun _ _ => rfl)) (pa_cons (pe_ix (ix_lK K) (pv 2) (pe_ix (ix_tK K) (pv 5) pe_int (fun _ _ => rfl)) (fun _ _ => rfl)) pa_nil))))
      (pss_cons (ps_asg (pv 6) (pg_sub (pv 2) (pe_ix (ix_tK K) (pv 4) pe_int (fun _ _ => rfl)) set_list))
      (pss_one (ps_asg (pv 6) (pg_sub (pv 2) (pe_ix (ix_tK K) (pv 5) pe_int (fun _ _ => rfl)) set_list))))))))))
      (pss_one (ps_ret (pv 2))))), ?_⟩
  try dsimp only [cxOf]
  obtain ⟨table_here, many, nb, h⟩ := h
  refine Zm.body (js := [0, 1, 2, 3, 4, 5, 6]) (m := l_labels_m table_here many) nb h ?_
  refine zm_to (Γ2 := [(.val (dKL (ky := kyPair) (d := (dList (d := (dPair (d1 := dInt) (d2 := dInt)))))) table_here), (.val dInt many), .no, .no, .no, .no, .no]) rfl ?_
  delta l_labels_m
  refine zm_setO (i := 2) rfl (by decide) (oe_eq (oe_listRg1 (re_w (we_var rfl))) rfl) fun label_1 => ?_
  refine zm_for [3, 4, 5, 6] (fun s2 => [(.val (dKL (ky := kyPair) (d := (dList (d := (dPair (d1 := dInt) (d2 := dInt)))))) table_here), (.val dInt many), (.own (dList (d := dInt)) (oList (d := dInt)) none s2), .no, .no, .no, .no]) label_1 (wlen 7 (by exact rfl) (by exact rfl) (by decide)) rfl (fun _ => (wlen 7 (by exact rfl) (by exact rfl) (by decide))) (ie_eq (ie_range (re_w (we_var rfl))) rfl) (fun s2 x3 => (a_name rfl ⟨(wlen 7 (by exact rfl) (by exact rfl) (by decide)), ?_⟩)) fun s17 => ?_
  · refine zm_last ?_
    refine zm_for [4, 5, 6] (fun s4 => [(.val (dKL (ky := kyPair) (d := (dList (d := (dPair (d1 := dInt) (d2 := dInt)))))) table_here), (.val dInt many), (.own (dList (d := dInt)) (oList (d := dInt)) none s4), (.val dInt x3), .no, .no, .no]) s2 (wlen 7 (by exact rfl) (by exact rfl) (by decide)) rfl (fun _ => (wlen 7 (by exact rfl) (by exact rfl) (by decide))) (ie_eq (ie_keysT (we_var rfl)) rfl) (fun s4 x5 => (a_name rfl ⟨(wlen 7 (by exact rfl) (by exact rfl) (by decide)), ?_⟩)) fun s15 => ?_
    · refine zm_last ?_
      refine zm_for [5, 6] (fun s6 => [(.val (dKL (ky := kyPair) (d := (dList (d := (dPair (d1 := dInt) (d2 := dInt)))))) table_here), (.val dInt many), (.own (dList (d := dInt)) (oList (d := dInt)) none s6), (.val dInt x3), (.val (dPair (d1 := dInt) (d2 := dInt)) x5), .no, .no]) s4 (wlen 7 (by exact rfl) (by exact rfl) (by decide)) rfl (fun _ => (wlen 7 (by exact rfl) (by exact rfl) (by decide))) (ie_eq (ie_list (we_dgetK (we_hH (we_var rfl)) (re_w (we_var rfl)))) rfl) (fun s6 x7 => (a_name rfl ⟨(wlen 7 (by exact rfl) (by exact rfl) (by decide)), ?_⟩)) fun s13 => ?_
      · refine zm_set (i := 6) rfl (by decide) (we_eq (we_min2 (re_w (we_ixO rfl (re_w (we_fst (we_var rfl))))) (re_w (we_ixO rfl (re_w (we_fst (we_var rfl)))))) rfl) fun low_10 => ?_
        refine zm_setIx (i := 2) rfl (by decide) (we_eq (we_var rfl) rfl) (re_eq (re_w (we_fst (we_var rfl))) rfl) fun label_11 => ?_
        refine zm_last ?_
        refine zm_setIx (i := 2) rfl (by decide) (we_eq (we_var rfl) rfl) (re_eq (re_w (we_fst (we_var rfl))) rfl) fun label_12 => ?_
        exact zm_nextL rfl
      · exact zm_nextL rfl
    · exact zm_nextL rfl
  · refine zm_last ?_
    exact zm_retV rfl
end K13

namespace K13
open PySem L2 G PM
set_option maxHeartbeats 4000000 in
theorem ok_l_carried {P : Program} {w : World} {K : PySem.W.Frag} {mg : Str → Option Value} {base : Heap} (T : Txt K mg) : FnOk P w K mg base (L2.CX P w) 1 T.a_l_carried T.f_l_carried ["_law_table_here", "_law_directions"] (sp_l_carried ⟨P, w, K⟩ T.A) := by
  have nd := sc_l_carried.nd
  refine T.F_l_carried.okX sc_l_carried (fun vs H Q E h => ?_) (fun cdv A outer s H vs Q E hr h => ?_)
  · exact sp_l_carried_len h
  have hu := hu_of hr
  refine ⟨_, (pss_cons (ps_for (passes_of rfl) rfl (pi_keys (pv 0)) (pg_name (i := 2) nd rfl (Or.inl rfl))
        (pss_one (ps_for (passes_of rfl) rfl (pi_lK K (pe_dget hu (pv 0) (pv 2) (fun _ _ => rfl))) (pg_name (i := 3) nd rfl (Or.inl rfl))
        (pss_one (ps_if (PW.pt (pw_and (pt_cmpR op_ge (pe_ix (ix_lK K) (pv 1) (pe_ix (ix_tK K) (pv 2) pe_int (fun _ _ => rfl)) (fun _ _ => rfl)) pe_int (nomark _)) (pw_and1 (pt_cmpR op_lt (pe_ix (ix_lK K) (pv 1) (pe_ix (ix_tK K) (pv 3) pe_int (fun _ _ => rfl)) (fun _ _ => rfl)) pe_int (nomark _)))))
        (pss_cons (ps_asg (pe_ix (ix_tK K) (pv 3) pe_int (fun _ _ => rfl)) (pg_sub (pv 1) (pe_ix (ix_tK K) (pv 3) pe_int (fun _ _ => rfl)) set_list))
      (pss_cons (ps_if (pt_cmpR op_ne (pe_ix (ix_lK K) (pv 1) (pe_ix (ix_tK K) (pv 2) pe_int (fun _ _ => rfl)) (fun _ _ => rfl)) (pe_ix (ix_tK K) (pv 2) pe_int (fun _ _ => rfl)) (nomark _))
        (pss_one (ps_asg (pe_op op_sub pe_int (pe_ix (ix_tK K) (pv 3) pe_int (fun _ _ => rfl))) (pg_sub (pv 1) (pe_ix (ix_tK K) (pv 3) pe_int (fun _ _ => rfl)) set_list)))
        pss_nil)
      (pss_one (ps_ret pe_bl))))
        pss_nil)))))
      (pss_one (ps_ret pe_bl))), ?_⟩
  try dsimp only [cxOf]
  obtain ⟨table_here, directions, hy, h⟩ := h
  refine Zm.bodyM1 (tx := T.A.tx) (js := [0, 1, 2, 3]) (p := 1) (Γ' := fun u1 => [(.val (dKL (ky := kyPair) (d := (dList (d := (dPair (d1 := dInt) (d2 := dInt)))))) table_here), (.own (dList (d := dInt)) (oList (d := dInt)) (some u1) directions), .no, .no]) (m := l_carried_m table_here directions) (by obtain ⟨y, e⟩ := hy; rw [e]; exact fun z => nomatch z) rfl h hy (fun _ => rfl) fun u1 => ?_
  delta l_carried_m
  refine zm_forCG [2, 3] (fun s1 => [(.val (dKL (ky := kyPair) (d := (dList (d := (dPair (d1 := dInt) (d2 := dInt)))))) table_here), (.own (dList (d := dInt)) (oList (d := dInt)) (some u1) s1), .no, .no]) directions (wlen 4 (by exact rfl) (by exact rfl) (by decide)) rfl (fun _ => (wlen 4 (by exact rfl) (by exact rfl) (by decide))) (ie_eq (ie_keysT (we_var rfl)) rfl) (fun s1 x2 => (a_name rfl ⟨(wlen 4 (by exact rfl) (by exact rfl) (by decide)), ?_⟩)) rt_KFM fun s17 => ?_
  · refine zm_last ?_
    refine zm_forCG [3] (fun s3 => [(.val (dKL (ky := kyPair) (d := (dList (d := (dPair (d1 := dInt) (d2 := dInt)))))) table_here), (.own (dList (d := dInt)) (oList (d := dInt)) (some u1) s3), (.val (dPair (d1 := dInt) (d2 := dInt)) x2), .no]) s1 (wlen 4 (by exact rfl) (by exact rfl) (by decide)) rfl (fun _ => (wlen 4 (by exact rfl) (by exact rfl) (by decide))) (ie_eq (ie_list (we_dgetK (we_hH (we_var rfl)) (re_w (we_var rfl)))) rfl) (fun s3 x4 => (a_name rfl ⟨(wlen 4 (by exact rfl) (by exact rfl) (by decide)), ?_⟩)) rt_KCG fun s14 => ?_
    · refine zm_last ?_
      refine zm_if (te_eq (te_and (te_test (we_ge (re_w (we_ixO rfl (re_w (we_fst (we_var rfl))))) (re_w we_int))) (te_test (we_lt (re_w (we_ixO rfl (re_w (we_fst (we_var rfl))))) (re_w we_int)))) rfl) ?_ ?_
      · refine zm_assoc ?_
        refine zm_setIx (i := 1) rfl (by decide) (we_eq (we_snd (we_var rfl)) rfl) (re_eq (re_w (we_fst (we_var rfl))) rfl) fun directions_8 => ?_
        refine zm_assoc ?_
        refine zm_join [] (fun s11 => [(.val (dKL (ky := kyPair) (d := (dList (d := (dPair (d1 := dInt) (d2 := dInt)))))) table_here), (.own (dList (d := dInt)) (oList (d := dInt)) (some u1) s11), (.val (dPair (d1 := dInt) (d2 := dInt)) x2), (.val (dPair (d1 := dInt) (d2 := dInt)) x4)]) (fun _ => (wlen 4 (by exact rfl) (by exact rfl) (by decide))) ?_ fun s11 => ?_
        · refine zm_last (zm_if (te_eq (te_test (we_neS (re_w (we_ixO rfl (re_w (we_fst (we_var rfl))))) (re_w (we_snd (we_var rfl))))) rfl) ?_ ?_)
          · refine zm_setIx (i := 1) rfl (by decide) (we_eq (we_sub (re_w we_int) (re_w (we_snd (we_var rfl)))) rfl) (re_eq (re_w (we_fst (we_var rfl))) rfl) fun directions_10 => ?_
            exact zm_nextJ rfl
          · refine zm_skip ?_
            exact zm_nextJ rfl
        · exact zm_retG (we_eq we_bl rfl) rfl
      · refine zm_skip ?_
        exact zm_nextG rfl
    · exact zm_nextG rfl
  · refine zm_last ?_
    exact zm_retM (we_eq we_bl rfl) rfl
end K13

namespace K13
open PySem L2 G PM
set_option maxHeartbeats 4000000 in
theorem ok_l_forced {P : Program} {w : World} {K : PySem.W.Frag} {mg : Str → Option Value} {base : Heap} (T : Txt K mg) (G_l_carried : FnOk P w K mg base (L2.CX P w) 1 T.a_l_carried T.f_l_carried ["_law_table_here", "_law_directions"] (sp_l_carried ⟨P, w, K⟩ T.A)) : FnOk P w K mg base (L2.CX P w) 2 T.a_l_forced T.f_l_forced ["_law_table_here", "_law_many"] (sp_l_forced ⟨P, w, K⟩ T.A) := by
  have nd := sc_l_forced.nd
  refine T.F_l_forced.okX sc_l_forced (fun vs H Q E h => ?_) (fun cdv A outer s H vs Q E hr h => ?_)
  · exact sp_l_forced_len h
  have hu := hu_of hr
  refine ⟨_, (pss_cons (ps_setLc (i := 3) (own := [("_law_k", 2)]) (by rfl) nd rfl rfl (sw_true rfl rfl rfl (by decide +kernel)) (pi_range1 (by rfl) T.b_range (pa_cons (pv 1) pa_nil)) (blkOk_by (own := [("_law_k", 2)]) (N := N_l_forced) (sc := defScope s_l_forced) (by decide +kernel)) (fun _ _ _ _ _ => (pg_name (i := 2) nd rfl (Or.inl rfl))) (fun _ _ _ _ _ => pts_nil) (fun _ _ _ _ _ => (pe_un un_neg pe_int)))
      (pss_cons (ps_for (passes_of rfl) rfl (pi_range1 (by rfl) T.b_range (pa_cons (pv 1) pa_nil)) (pg_name (i := 4) nd rfl (Or.inl rfl))
        (pss_one (ps_if (pt_cmpR op_lt (pe_ix (ix_lK K) (pv 3) (pv 4) (fun _ _ => rfl)) pe_int (nomark _))
        (pss_cons (ps_asg pe_int (pg_sub (pv 3) (pv 4) set_list))
      (pss_one (ps_for (passes_of rfl) rfl (pi_range1 (by rfl) T.b_range (pa_cons (pv 1) pa_nil)) (pg_name (i := 2) nd rfl (Or.inl rfl))
        (pss_one (ps_if (pt_not (pt_val (pe_callS G_l_carried (hr.mono (by decide)) (by rfl) T.g_l_carried T.F_l_carried.kp T.d_l_carried (fun σ => passAt (takes_of rfl rfl rfl rfl) σ) (pa_cons (pv 0) (pa_cons (pv 3) pa_nil)))))
        (pss_one ps_break)
        pss_nil)))))
        pss_nil)))
      (pss_one (ps_ret (pv 3))))), ?_⟩
  try dsimp only [cxOf]
  obtain ⟨table_here, many, nb, h⟩ := h
  refine Zm.body (js := [0, 1, 2, 3, 4]) (m := l_forced_m table_here many) nb h ?_
  refine zm_to (Γ2 := [(.val (dKL (ky := kyPair) (d := (dList (d := (dPair (d1 := dInt) (d2 := dInt)))))) table_here), (.val dInt many), .no, .no, .no]) rfl ?_
  delta l_forced_m
  refine zm_setO (i := 3) rfl (by decide) (oe_eq (oe_lc (tg_name' (by decide)) (ic_range (re_w (we_var rfl))) fun x1 => (a_name rfl ⟨te_yes, (we_neg (re_w we_int))⟩)) rfl) fun directions_2 => ?_
  refine zm_for [2, 4] (fun s3 => [(.val (dKL (ky := kyPair) (d := (dList (d := (dPair (d1 := dInt) (d2 := dInt)))))) table_here), (.val dInt many), .no, (.own (dList (d := dInt)) (oList (d := dInt)) none s3), .no]) directions_2 (wlen 5 (by exact rfl) (by exact rfl) (by decide)) rfl (fun _ => (wlen 5 (by exact rfl) (by exact rfl) (by decide))) (ie_eq (ie_range (re_w (we_var rfl))) rfl) (fun s3 x4 => (a_name rfl ⟨(wlen 5 (by exact rfl) (by exact rfl) (by decide)), ?_⟩)) fun s15 => ?_
  · refine zm_last ?_
    refine zm_if (te_eq (te_test (we_lt (re_w (we_ixO rfl (re_w (we_var rfl)))) (re_w we_int))) rfl) ?_ ?_
    · refine zm_assoc ?_
      refine zm_setIx (i := 3) rfl (by decide) (we_eq we_int rfl) (re_eq (re_w (we_var rfl)) rfl) fun directions_6 => ?_
      refine zm_forC [2] (fun s7 => [(.val (dKL (ky := kyPair) (d := (dList (d := (dPair (d1 := dInt) (d2 := dInt)))))) table_here), (.val dInt many), .no, (.own (dList (d := dInt)) (oList (d := dInt)) none s7), (.val dInt x4)]) (fun (r : Empty) => nomatch r) directions_6 (wlen 5 (by exact rfl) (by exact rfl) (by decide)) rfl (fun _ => (wlen 5 (by exact rfl) (by exact rfl) (by decide))) (ie_eq (ie_range (re_w (we_var rfl))) rfl) (fun s7 x8 => (a_name rfl ⟨(wlen 5 (by exact rfl) (by exact rfl) (by decide)), ?_⟩)) (fun r => nomatch r) fun s11 => ?_
      · refine zm_last ?_
        refine zm_ifNM1 (j := 3) rfl (by decide) (mm_cons (we_eq (we_var rfl) rfl) fun a9 => (mm_own rfl (mm_nil fun nb => ⟨[_], [], rfl, hs_l_carried nb⟩))) ?_ ?_
        · intro p10
          exact zm_breakC rfl
        · intro p10
          refine zm_skip ?_
          exact zm_nextC rfl
      · exact zm_nextL rfl
    · refine zm_skip ?_
      exact zm_nextL rfl
  · refine zm_last ?_
    exact zm_retV rfl
end K13

namespace K13
open PySem L2 G PM
set_option maxHeartbeats 4000000 in
theorem ok_l_lists {P : Program} {w : World} {K : PySem.W.Frag} {mg : Str → Option Value} {base : Heap} (T : Txt K mg) (G_l_pick : FnOk P w K mg base (L2.CX P w) 1 T.a_l_pick T.f_l_pick ["_law_draws_here", "_law_k", "_law_many"] (sp_l_pick ⟨P, w, K⟩ T.A)) : FnOk P w K mg base (L2.CX P w) 2 T.a_l_lists T.f_l_lists ["_law_draws_here", "_law_at", "_law_many", "_law_forced_here", "_law_label"] (sp_l_lists ⟨P, w, K⟩ T.A) := by
  have nd := sc_l_lists.nd
  refine T.F_l_lists.okX sc_l_lists (fun vs H Q E h => ?_) (fun cdv A outer s H vs Q E hr h => ?_)
  · exact sp_l_lists_len h
  have hu := hu_of hr
  refine ⟨_, (pss_cons (ps_set (i := 5) nd rfl (Or.inl rfl) (pe_lst (pa_cons (pe_lst pa_nil) pa_nil)))
      (pss_cons (ps_if (pt_cmpR op_lt (pv 2) pe_int (nomark _))
        (pss_one (ps_for (passes_of rfl) rfl (pi_range1 (by rfl) T.b_range (pa_cons (pv 2) pa_nil)) (pg_name (i := 6) nd rfl (Or.inl rfl))
        (pss_one (ps_set (i := 5) nd rfl (Or.inl rfl) (pe_op op_catR (pe_lc (own := [("_law_row", 12)]) (by rfl) nd (pi_lB K (pv 5)) (blkOk_by (own := [("_law_row", 12)]) (N := N_l_lists) (sc := defScope s_l_lists) (by decide +kernel)) (fun _ _ _ _ _ => (pg_name (i := 12) nd rfl (Or.inl rfl))) (fun _ _ _ _ _ => pts_nil) (fun _ _ _ _ _ => (pe_op op_catR (pv 12) (pe_lst (pa_cons pe_int pa_nil))))) (pe_lc (own := [("_law_row", 12)]) (by rfl) nd (pi_lB K (pv 5)) (blkOk_by (own := [("_law_row", 12)]) (N := N_l_lists) (sc := defScope s_l_lists) (by decide +kernel)) (fun _ _ _ _ _ => (pg_name (i := 12) nd rfl (Or.inl rfl))) (fun _ _ _ _ _ => pts_nil) (fun _ _ _ _ _ => (pe_op op_catR (pv 12) (pe_lst (pa_cons pe_int pa_nil))))))))))
        (pss_cons (ps_set (i := 7) nd rfl (Or.inr rfl) (pe_ix (ix_lK K) (pv 4) (pe_callS G_l_pick (hr.mono (by decide)) (by rfl) T.g_l_pick T.F_l_pick.kp T.d_l_pick (fun σ => passAt (takes_of rfl rfl rfl rfl) σ) (pa_cons (pv 0) (pa_cons (pv 1) (pa_cons (pv 2) pa_nil)))) (fun _ _ => rfl)))
      (pss_cons (ps_set (i := 8) nd rfl (Or.inr rfl) (pe_callS G_l_pick (hr.mono (by decide)) (by rfl) T.g_l_pick T.F_l_pick.kp T.d_l_pick (fun σ => passAt (takes_of rfl rfl rfl rfl) σ) (pa_cons (pv 0) (pa_cons (pe_op op_add (pv 1) pe_int) (pa_cons (pv 2) pa_nil)))))
      (pss_cons (ps_set (i := 5) nd rfl (Or.inl rfl) (pe_lst (pa_cons (pe_callTy (list_K K) (by rfl) T.b_list (by decide +kernel) (pa_cons (pv 3) pa_nil)) (pa_cons (pe_lc (own := [("_law_direction", 10)]) (by rfl) nd (pi_lB K (pv 3)) (blkOk_by (own := [("_law_direction", 10)]) (N := N_l_lists) (sc := defScope s_l_lists) (by decide +kernel)) (fun _ _ _ _ _ => (pg_name (i := 10) nd rfl (Or.inl rfl))) (fun _ _ _ _ _ => pts_nil) (fun _ _ _ _ _ => (pe_op op_sub pe_int (pv 10)))) (pa_cons (pe_lc (own := [("_law_k", 6)]) (by rfl) nd (pi_range1 (by rfl) T.b_range (pa_cons (pv 2) pa_nil)) (blkOk_by (own := [("_law_k", 6)]) (N := N_l_lists) (sc := defScope s_l_lists) (by decide +kernel)) (fun _ _ _ _ _ => (pg_name (i := 6) nd rfl (Or.inl rfl))) (fun _ _ _ _ _ => pts_nil) (fun _ _ _ _ _ => pe_int)) (pa_cons (pe_lc (own := [("_law_k", 6)]) (by rfl) nd (pi_range1 (by rfl) T.b_range (pa_cons (pv 2) pa_nil)) (blkOk_by (own := [("_law_k", 6)]) (N := N_l_lists) (sc := defScope s_l_lists) (by decide +kernel)) (fun _ _ _ _ _ => (pg_name (i := 6) nd rfl (Or.inl rfl))) (fun _ _ _ _ _ => pts_nil) (fun _ _ _ _ _ => pe_int)) pa_nil))))))
      (pss_cons (ps_expr (bm_K K PySem.F.plainAttrs_list PySem.F.slot_list_append PySem.F.type_list_append mt_append (pv 5) (pa_cons (pe_lc (own := [("_law_tie", 11)]) (by rfl) nd (pi_range1 (by rfl) T.b_range (pa_cons (pv 2) pa_nil)) (blkOk_by (own := [("_law_tie", 11)]) (N := N_l_lists) (sc := defScope s_l_lists) (by decide +kernel)) (fun _ _ _ _ _ => (pg_name (i := 11) nd rfl (Or.inl rfl))) (fun _ _ _ _ _ => pts_nil) (fun _ _ _ _ _ => (pe_callTy call_int1 (by rfl) T.b_int (by decide +kernel) (pa_cons (pe_cmpR op_ne (pe_cmpR op_eq (pe_ix (ix_lK K) (pv 3) (pv 11) (fun _ _ => rfl)) pe_int (nomark _)) (pe_cmpR op_eq (pe_ix (ix_lK K) (pv 4) (pv 11) (fun _ _ => rfl)) (pv 7) (nomark _)) (nomark _)) pa_nil)))) pa_nil)))
      (pss_cons (ps_expr (bm_K K PySem.F.plainAttrs_list PySem.F.slot_list_append PySem.F.type_list_append mt_append (pv 5) (pa_cons (pe_lc (own := [("_law_tie", 11)]) (by rfl) nd (pi_range1 (by rfl) T.b_range (pa_cons (pv 2) pa_nil)) (blkOk_by (own := [("_law_tie", 11)]) (N := N_l_lists) (sc := defScope s_l_lists) (by decide +kernel)) (fun _ _ _ _ _ => (pg_name (i := 11) nd rfl (Or.inl rfl))) (fun _ _ _ _ _ => pts_nil) (fun _ _ _ _ _ => (pe_callTy call_int1 (by rfl) T.b_int (by decide +kernel) (pa_cons (pe_cmpR op_ne (pe_cmpR op_eq (pe_ix (ix_lK K) (pv 3) (pv 11) (fun _ _ => rfl)) pe_int (nomark _)) (pe_cmpR op_eq (pv 11) (pv 8) (nomark _)) (nomark _)) pa_nil)))) pa_nil)))
      (pss_one (ps_expr (bm_K K PySem.F.plainAttrs_list PySem.F.slot_list_append PySem.F.type_list_append mt_append (pv 5) (pa_cons (pe_lc (own := [("_law_tie", 11)]) (by rfl) nd (pi_range1 (by rfl) T.b_range (pa_cons (pv 2) pa_nil)) (blkOk_by (own := [("_law_tie", 11)]) (N := N_l_lists) (sc := defScope s_l_lists) (by decide +kernel)) (fun _ _ _ _ _ => (pg_name (i := 11) nd rfl (Or.inl rfl))) (fun _ _ _ _ _ => pts_nil) (fun _ _ _ _ _ => (pe_callS G_l_pick (hr.mono (by decide)) (by rfl) T.g_l_pick T.F_l_pick.kp T.d_l_pick (fun σ => passFS σ) (pa_cons (pv 0) (pa_cons (pe_op op_add (pe_op op_add (pv 1) pe_int) (pv 11)) (pa_cons pe_int pa_nil)))))) pa_nil))))))))))
      (pss_cons (ps_for (passes_of rfl) rfl (pi_range1 (by rfl) T.b_range (pa_cons pe_int pa_nil)) (pg_name (i := 6) nd rfl (Or.inl rfl))
        (pss_cons (ps_set (i := 9) nd rfl (Or.inl rfl) (pe_callTy (list_K K) (by rfl) T.b_list (by decide +kernel) (pa_cons (pv 3) pa_nil)))
      (pss_cons (ps_if (pt_cmpR op_gt (pv 2) pe_int (nomark _))
        (pss_cons (ps_set (i := 8) nd rfl (Or.inr rfl) (pe_callS G_l_pick (hr.mono (by decide)) (by rfl) T.g_l_pick T.F_l_pick.kp T.d_l_pick (fun σ => passAt (takes_of rfl rfl rfl rfl) σ) (pa_cons (pv 0) (pa_cons (pe_op op_add (pe_op op_add (pv 1) pe_int) (pv 6)) (pa_cons (pv 2) pa_nil)))))
      (pss_one (ps_asg (pe_ix (ix_lK K) (pe_lst (pa_cons pe_int (pa_cons (pe_un un_neg pe_int) (pa_cons (pe_op op_pow pe_int pe_int) pa_nil)))) (pv 6) (fun _ _ => rfl)) (pg_sub (pv 9) (pv 8) set_list))))
        pss_nil)
      (pss_one (ps_expr (bm_K K PySem.F.plainAttrs_list PySem.F.slot_list_append PySem.F.type_list_append mt_append (pv 5) (pa_cons (pv 9) pa_nil)))))))
      (pss_one (ps_ret (pe_op op_catR (pv 5) (pe_lst (pa_cons (pe_slice (sl_lK K) (pv 3) po_none (po_some (pe_un un_neg pe_int))) (pa_cons (pe_op op_catR (pv 3) (pe_lst (pa_cons pe_int pa_nil))) (pa_cons (pe_op op_catR (pv 3) (pe_lst (pa_cons pe_int pa_nil))) pa_nil)))))))))), ?_⟩
  try dsimp only [cxOf]
  obtain ⟨draws_here, at_, many, forced_here, label, nb, h⟩ := h
  refine Zm.body (js := [0, 1, 2, 3, 4, 5, 6, 7, 8, 9, 10, 11, 12]) (m := l_lists_m draws_here at_ many forced_here label) nb h ?_
  refine zm_to (Γ2 := [(.val (dList (d := dInt)) draws_here), (.val dInt at_), (.val dInt many), (.val (dList (d := dInt)) forced_here), (.val (dList (d := dInt)) label), .no, .no, .no, .no, .no, .no, .no, .no]) rfl ?_
  delta l_lists_m
  refine zm_setO (i := 5) rfl (by decide) (oe_eq (oe_lstN (wle_cons (we_o (oe_lst0 (d := dInt))) wle_nil) (asLenS asLen0) (by decide)) rfl) fun lists_here_1 => ?_
  refine zm_join [6, 7, 8] (fun s38 => [(.val (dList (d := dInt)) draws_here), (.val dInt at_), (.val dInt many), (.val (dList (d := dInt)) forced_here), (.val (dList (d := dInt)) label), (.own (dList (d := (dList (d := dInt)))) (oList (d := (dList (d := dInt)))) none s38), .no, .no, .no, .no, .no, .no, .no]) (fun _ => (wlen 13 (by exact rfl) (by exact rfl) (by decide))) ?_ fun s38 => ?_
  · refine zm_last (zm_ifP (te_eq (te_test (we_lt (re_w (we_var rfl)) (re_w we_int))) rfl) ?_ ?_)
    · refine zm_for [6] (fun s2 => [(.val (dList (d := dInt)) draws_here), (.val dInt at_), (.val dInt many), (.val (dList (d := dInt)) forced_here), (.val (dList (d := dInt)) label), (.own (dList (d := (dList (d := dInt)))) (oList (d := (dList (d := dInt)))) none s2), .no, .no, .no, .no, .no, .no, .no]) lists_here_1 (wlen 13 (by exact rfl) (by exact rfl) (by decide)) rfl (fun _ => (wlen 13 (by exact rfl) (by exact rfl) (by decide))) (ie_eq (ie_range (re_w (we_var rfl))) rfl) (fun s2 x3 => (a_name rfl ⟨(wlen 13 (by exact rfl) (by exact rfl) (by decide)), ?_⟩)) fun s9 => ?_
      · refine zm_last ?_
        refine zm_frz 5 rfl (by decide) ?_
        refine zm_setO (i := 5) rfl (by decide) (oe_eq (oe_cat (we_o (oe_lc (tg_name' (by decide)) (ic_list (we_var rfl)) fun x4 => (a_name rfl ⟨te_yes, (we_o (oe_cat (we_var rfl) (we_o (oe_lstN (wle_cons we_int wle_nil) (asLenS asLen0) (by decide)))))⟩))) (we_o (oe_lc (tg_name' (by decide)) (ic_list (we_var rfl)) fun x5 => (a_name rfl ⟨te_yes, (we_o (oe_cat (we_var rfl) (we_o (oe_lstN (wle_cons we_int wle_nil) (asLenS asLen0) (by decide)))))⟩)))) rfl) fun lists_here_8 => ?_
        exact zm_nextL rfl
      · exact zm_nextJ rfl
    · refine zm_assoc ?_
      refine zm_set (i := 7) rfl (by decide) (we_eq (we_ix (we_var rfl) (re_w (we_call3 hs_l_pick rfl (we_var rfl) (we_var rfl) (we_var rfl)))) rfl) fun group_12 => ?_
      refine zm_assoc ?_
      refine zm_set (i := 8) rfl (by decide) (we_eq (we_call3 hs_l_pick rfl (we_var rfl) (we_add (re_w (we_var rfl)) (re_w we_int)) (we_var rfl)) rfl) fun one_13 => ?_
      refine zm_assoc ?_
      refine zm_setO (i := 5) rfl (by decide) (oe_eq (oe_lstN (wle_cons (we_o (oe_listOf (we_var rfl))) (wle_cons (we_o (oe_lc (tg_name' (by decide)) (ic_list (we_var rfl)) fun x14 => (a_name rfl ⟨te_yes, (we_sub (re_w we_int) (re_w (we_var rfl)))⟩))) (wle_cons (we_o (oe_lc (tg_name' (by decide)) (ic_range (re_w (we_var rfl))) fun x15 => (a_name rfl ⟨te_yes, we_int⟩))) (wle_cons (we_o (oe_lc (tg_name' (by decide)) (ic_range (re_w (we_var rfl))) fun x16 => (a_name rfl ⟨te_yes, we_int⟩))) wle_nil)))) (asLenS (asLenS (asLenS (asLenS asLen0)))) (by decide)) rfl) fun lists_here_23 => ?_
      refine zm_assoc ?_
      refine zm_append (i := 5) rfl (by decide) (we_eq (we_o (oe_lc (tg_name' (by decide)) (ic_range (re_w (we_var rfl))) fun x24 => (a_name rfl ⟨te_yes, (we_intB (re_w (we_neS (re_w (we_eqS (re_w (we_ix (we_var rfl) (re_w (we_var rfl)))) (re_w we_int))) (re_w (we_eqS (re_w (we_ix (we_var rfl) (re_w (we_var rfl)))) (re_w (we_var rfl)))))))⟩))) rfl) fun lists_here_30 => ?_
      refine zm_assoc ?_
      refine zm_append (i := 5) rfl (by decide) (we_eq (we_o (oe_lc (tg_name' (by decide)) (ic_range (re_w (we_var rfl))) fun x31 => (a_name rfl ⟨te_yes, (we_intB (re_w (we_neS (re_w (we_eqS (re_w (we_ix (we_var rfl) (re_w (we_var rfl)))) (re_w we_int))) (re_w (we_eqS (re_w (we_var rfl)) (re_w (we_var rfl)))))))⟩))) rfl) fun lists_here_35 => ?_
      refine zm_append (i := 5) rfl (by decide) (we_eq (we_o (oe_lc (tg_name' (by decide)) (ic_range (re_w (we_var rfl))) fun x36 => (a_name rfl ⟨te_yes, (we_call3 hs_l_pick rfl (we_var rfl) (we_add (re_w (we_add (re_w (we_var rfl)) (re_w we_int))) (re_w (we_var rfl))) we_int)⟩))) rfl) fun lists_here_37 => ?_
      exact zm_nextJ rfl
  · refine zm_for [6, 8, 9] (fun s39 => [(.val (dList (d := dInt)) draws_here), (.val dInt at_), (.val dInt many), (.val (dList (d := dInt)) forced_here), (.val (dList (d := dInt)) label), (.own (dList (d := (dList (d := dInt)))) (oList (d := (dList (d := dInt)))) none s39), .no, .no, .no, .no, .no, .no, .no]) s38 (wlen 13 (by exact rfl) (by exact rfl) (by decide)) rfl (fun _ => (wlen 13 (by exact rfl) (by exact rfl) (by decide))) (ie_eq (ie_range (re_w we_int)) rfl) (fun s39 x40 => (a_name rfl ⟨(wlen 13 (by exact rfl) (by exact rfl) (by decide)), ?_⟩)) fun s46 => ?_
    · refine zm_setO (i := 9) rfl (by decide) (oe_eq (oe_listOf (we_var rfl)) rfl) fun spoilt_41 => ?_
      refine zm_join [8] (fun s44 => [(.val (dList (d := dInt)) draws_here), (.val dInt at_), (.val dInt many), (.val (dList (d := dInt)) forced_here), (.val (dList (d := dInt)) label), (.own (dList (d := (dList (d := dInt)))) (oList (d := (dList (d := dInt)))) none s39), (.val dInt x40), .no, .no, (.own (dList (d := dInt)) (oList (d := dInt)) none s44), .no, .no, .no]) (fun _ => (wlen 13 (by exact rfl) (by exact rfl) (by decide))) ?_ fun s44 => ?_
      · refine zm_last (zm_ifP (te_eq (te_test (we_gt (re_w (we_var rfl)) (re_w we_int))) rfl) ?_ ?_)
        · refine zm_assoc ?_
          refine zm_set (i := 8) rfl (by decide) (we_eq (we_call3 hs_l_pick rfl (we_var rfl) (we_add (re_w (we_add (re_w (we_var rfl)) (re_w we_int))) (re_w (we_var rfl))) (we_var rfl)) rfl) fun one_42 => ?_
          refine zm_setIx (i := 9) rfl (by decide) (we_eq (we_ix (we_o (oe_lstN (wle_cons we_int (wle_cons (we_neg (re_w we_int)) (wle_cons (we_powC (c := 100000000000000000000) (re_w we_int) (re_w we_int) (by decide)) wle_nil))) (asLenS (asLenS (asLenS asLen0))) (by decide))) (re_w (we_var rfl))) rfl) (re_eq (re_w (we_var rfl)) rfl) fun spoilt_43 => ?_
          exact zm_nextJ rfl
        · refine zm_skip ?_
          exact zm_nextJ rfl
      · refine zm_last ?_
        refine zm_frz 9 rfl (by decide) ?_
        refine zm_append (i := 5) rfl (by decide) (we_eq (we_var rfl) rfl) fun lists_here_45 => ?_
        exact zm_nextL rfl
    · refine zm_last ?_
      refine zm_frz 5 rfl (by decide) ?_
      exact zm_retO (oe_eq (oe_cat (we_var rfl) (we_o (oe_lstN (wle_cons (we_o (oe_sl (we_var rfl) toe_none (toe_some (re_w (we_neg (re_w we_int)))))) (wle_cons (we_o (oe_cat (we_var rfl) (we_o (oe_lstN (wle_cons we_int wle_nil) (asLenS asLen0) (by decide))))) (wle_cons (we_o (oe_cat (we_var rfl) (we_o (oe_lstN (wle_cons we_int wle_nil) (asLenS asLen0) (by decide))))) wle_nil))) (asLenS (asLenS (asLenS asLen0))) (by decide)))) rfl)
end K13

namespace K13
open PySem L2 G PM
set_option maxHeartbeats 4000000 in
theorem ok_l_keeps {P : Program} {w : World} {K : PySem.W.Frag} {mg : Str → Option Value} {base : Heap} (T : Txt K mg) : FnOk P w K mg base (L2.CX P w) 1 T.a_l_keeps T.f_l_keeps ["_law_table_here", "_law_many", "_law_directions"] (sp_l_keeps ⟨P, w, K⟩ T.A) := by
  have nd := sc_l_keeps.nd
  refine T.F_l_keeps.okX sc_l_keeps (fun vs H Q E h => ?_) (fun cdv A outer s H vs Q E hr h => ?_)
  · exact sp_l_keeps_len h
  have hu := hu_of hr
  refine ⟨_, (pss_cons (ps_if (pt_cmpR op_ne (pe_callB (len_K K) (by rfl) T.b_len (by decide +kernel) (pa_cons (pv 2) pa_nil)) (pv 1) (nomark _))
        (pss_one (ps_ret pe_bl))
        pss_nil)
      (pss_cons (ps_for (passes_of rfl) rfl (pi_lK K (pv 2)) (pg_name (i := 3) nd rfl (Or.inl rfl))
        (pss_one (ps_if (PW.pt (pw_and (pt_cmpR op_ne (pv 3) pe_int (nomark _)) (pw_and1 (pt_cmpR op_ne (pv 3) pe_int (nomark _)))))
        (pss_one (ps_ret pe_bl))
        pss_nil)))
      (pss_cons (ps_for (passes_of rfl) rfl (pi_keys (pv 0)) (pg_name (i := 4) nd rfl (Or.inl rfl))
        (pss_one (ps_for (passes_of rfl) rfl (pi_lK K (pe_dget hu (pv 0) (pv 4) (fun _ _ => rfl))) (pg_name (i := 5) nd rfl (Or.inl rfl))
        (pss_one (ps_if (pt_cmpR op_ne (pe_cmpR op_eq (pe_ix (ix_lK K) (pv 2) (pe_ix (ix_tK K) (pv 4) pe_int (fun _ _ => rfl)) (fun _ _ => rfl)) (pe_ix (ix_tK K) (pv 4) pe_int (fun _ _ => rfl)) (nomark _)) (pe_cmpR op_eq (pe_ix (ix_lK K) (pv 2) (pe_ix (ix_tK K) (pv 5) pe_int (fun _ _ => rfl)) (fun _ _ => rfl)) (pe_ix (ix_tK K) (pv 5) pe_int (fun _ _ => rfl)) (nomark _)) (nomark _))
        (pss_one (ps_ret pe_bl))
        pss_nil)))))
      (pss_one (ps_ret pe_bl))))), ?_⟩
  try dsimp only [cxOf]
  obtain ⟨table_here, many, directions, nb, h⟩ := h
  refine Zm.body (js := [0, 1, 2, 3, 4, 5]) (m := l_keeps_m table_here many directions) nb h ?_
  refine zm_to (Γ2 := [(.val (dKL (ky := kyPair) (d := (dList (d := (dPair (d1 := dInt) (d2 := dInt)))))) table_here), (.val dInt many), (.val (dList (d := dInt)) directions), .no, .no, .no]) rfl ?_
  delta l_keeps_m
  refine zm_ifP (te_eq (te_test (we_neS (re_w (we_len (re_w (we_var rfl)))) (re_w (we_var rfl)))) rfl) ?_ ?_
  · exact zm_ret (we_eq we_bl rfl)
  · refine zm_skip ?_
    refine zm_forC [3] (fun (_ : Unit) => [(.val (dKL (ky := kyPair) (d := (dList (d := (dPair (d1 := dInt) (d2 := dInt)))))) table_here), (.val dInt many), (.val (dList (d := dInt)) directions), .no, .no, .no]) (fun r => .val dBool r) () (wlen 6 (by exact rfl) (by exact rfl) (by decide)) rfl (fun _ => (wlen 6 (by exact rfl) (by exact rfl) (by decide))) (ie_eq (ie_list (we_var rfl)) rfl) (fun _ x2 => (a_name rfl ⟨(wlen 6 (by exact rfl) (by exact rfl) (by decide)), ?_⟩)) rt_KF fun _ => ?_
    · refine zm_last ?_
      refine zm_ifP (te_eq (te_andP (te_test (we_neS (re_w (we_var rfl)) (re_w we_int))) (te_test (we_neS (re_w (we_var rfl)) (re_w we_int)))) rfl) ?_ ?_
      · exact zm_retC (we_eq we_bl rfl)
      · refine zm_skip ?_
        exact zm_nextC rfl
    · refine zm_forC [4, 5] (fun (_ : Unit) => [(.val (dKL (ky := kyPair) (d := (dList (d := (dPair (d1 := dInt) (d2 := dInt)))))) table_here), (.val dInt many), (.val (dList (d := dInt)) directions), .no, .no, .no]) (fun r => .val dBool r) () (wlen 6 (by exact rfl) (by exact rfl) (by decide)) rfl (fun _ => (wlen 6 (by exact rfl) (by exact rfl) (by decide))) (ie_eq (ie_keysT (we_var rfl)) rfl) (fun _ x5 => (a_name rfl ⟨(wlen 6 (by exact rfl) (by exact rfl) (by decide)), ?_⟩)) rt_KF fun _ => ?_
      · refine zm_last ?_
        refine zm_forC [5] (fun (_ : Unit) => [(.val (dKL (ky := kyPair) (d := (dList (d := (dPair (d1 := dInt) (d2 := dInt)))))) table_here), (.val dInt many), (.val (dList (d := dInt)) directions), .no, (.val (dPair (d1 := dInt) (d2 := dInt)) x5), .no]) (fun r => .val dBool r) () (wlen 6 (by exact rfl) (by exact rfl) (by decide)) rfl (fun _ => (wlen 6 (by exact rfl) (by exact rfl) (by decide))) (ie_eq (ie_list (we_dgetK (we_hH (we_var rfl)) (re_w (we_var rfl)))) rfl) (fun _ x7 => (a_name rfl ⟨(wlen 6 (by exact rfl) (by exact rfl) (by decide)), ?_⟩)) rt_KC fun _ => ?_
        · refine zm_last ?_
          refine zm_if (te_eq (te_test (we_neS (re_w (we_eqS (re_w (we_ix (we_var rfl) (re_w (we_fst (we_var rfl))))) (re_w (we_snd (we_var rfl))))) (re_w (we_eqS (re_w (we_ix (we_var rfl) (re_w (we_fst (we_var rfl))))) (re_w (we_snd (we_var rfl))))))) rfl) ?_ ?_
          · exact zm_retC (we_eq we_bl rfl)
          · refine zm_skip ?_
            exact zm_nextC rfl
        · exact zm_nextC rfl
      · refine zm_last ?_
        exact zm_ret (we_eq we_bl rfl)
end K13

namespace K13
open PySem L2 G PM
set_option maxHeartbeats 4000000 in
theorem ok_p_every_step {P : Program} {w : World} {K : PySem.W.Frag} {mg : Str → Option Value} {base : Heap} (T : Txt K mg) : FnOk P w K mg base (L2.CX P w) 1 T.a_p_every_step T.f_p_every_step ["web"] (sp_p_every_step ⟨P, w, K⟩ T.A) := by
  have nd := sc_p_every_step.nd
  refine T.F_p_every_step.okX sc_p_every_step (fun vs H Q E h => ?_) (fun cdv A outer s H vs Q E hr h => ?_)
  · exact sp_p_every_step_len h
  have hu := hu_of hr
  refine ⟨_, (pss_one (ps_ret (pe_lc2 (own := [("tie", 1), ("direction", 2)]) (vs1 := [2]) (by rfl) nd (pi_range1 (by rfl) T.b_range (pa_cons (pe_callB (len_K K) (by rfl) T.b_len (by decide +kernel) (pa_cons (fld_K K (pv 0) rfl) pa_nil)) pa_nil)) (blkOk_by (own := [("tie", 1), ("direction", 2)]) (N := N_p_every_step) (sc := defScope s_p_every_step) (by decide +kernel)) (by decide) (fun _ _ _ _ _ => (pg_name (i := 1) nd rfl (Or.inl rfl))) (fun _ _ _ _ _ => pts_nil) (fun _ _ _ _ _ => (pi_tB K (pe_tup (pa_cons pe_int (pa_cons pe_int pa_nil))))) (fun _ _ _ _ _ => (pg_name (i := 2) nd rfl (Or.inl rfl))) (fun _ _ _ _ _ => pts_nil) (fun _ _ _ _ _ => (pe_tup (pa_cons (pv 1) (pa_cons (pv 2) pa_nil)))) ))), ?_⟩
  try dsimp only [cxOf]
  obtain ⟨web, nb, h⟩ := h
  refine Zm.body (js := [0, 1, 2]) (m := p_every_step_m web) nb h ?_
  refine zm_to (Γ2 := [(.val (dWeb T.A) web), .no, .no]) rfl ?_
  delta p_every_step_m
  refine zm_last ?_
  exact zm_retO (oe_eq (oe_lc2 (tg_name' (by decide)) (tg_name' (by decide)) (iw_range (re_w (we_lenT (re_w (we_fld (isF_Web_ties T.A) T.c_Web T.n_Web_ties (we_var rfl)))))) fun x1 => (a_name rfl ⟨te_yes, (iw_tup (we_pairL (we_tup2 we_int we_int))), fun x2 => (a_name rfl ⟨te_yes, (we_tup2 (we_var rfl) (we_var rfl))⟩)⟩)) rfl)
end K13

namespace K13
open PySem L2 G PM
set_option maxHeartbeats 4000000 in
theorem ok_m_Web_back {P : Program} {w : World} {K : PySem.W.Frag} {mg : Str → Option Value} {base : Heap} (T : Txt K mg) : FnOk P w K mg base (L2.CX P w) 1 T.a_m_Web_back T.f_m_Web_back ["step"] (sp_m_Web_back ⟨P, w, K⟩ T.A) := by
  have nd := sc_m_Web_back.nd
  refine T.F_m_Web_back.okX sc_m_Web_back (fun vs H Q E h => ?_) (fun cdv A outer s H vs Q E hr h => ?_)
  · exact sp_m_Web_back_len h
  have hu := hu_of hr
  refine ⟨_, (pss_one (ps_ret (pe_tup (pa_cons (pe_ix (ix_tK K) (pv 0) pe_int (fun _ _ => rfl)) (pa_cons (pe_op op_sub pe_int (pe_ix (ix_tK K) (pv 0) pe_int (fun _ _ => rfl))) pa_nil))))), ?_⟩
  try dsimp only [cxOf]
  obtain ⟨step, nb, h⟩ := h
  refine Zm.body (js := [0]) (m := m_Web_back_m step) nb h ?_
  refine zm_to (Γ2 := [(.val (dPair (d1 := dInt) (d2 := dInt)) step)]) rfl ?_
  delta m_Web_back_m
  refine zm_last ?_
  exact zm_ret (we_eq (we_tup2 (we_fst (we_var rfl)) (we_sub (re_w we_int) (re_w (we_snd (we_var rfl))))) rfl)
end K13

namespace K13
open PySem L2 G PM
set_option maxHeartbeats 4000000 in
theorem ok_m_Web_tail {P : Program} {w : World} {K : PySem.W.Frag} {mg : Str → Option Value} {base : Heap} (T : Txt K mg) (G_x_UnknownTie : FnOk P w K mg base (L2.CX P w) 1 T.i_UnknownTie T.fx_UnknownTie ["self", "tie"] (spX1 (T.A.tx .UnknownTie) "tie")) : FnOk P w K mg base (L2.CX P w) 3 T.a_m_Web_tail T.f_m_Web_tail ["self", "step"] (sp_m_Web_tail ⟨P, w, K⟩ T.A) := by
  have nd := sc_m_Web_tail.nd
  refine T.F_m_Web_tail.okX sc_m_Web_tail (fun vs H Q E h => ?_) (fun cdv A outer s H vs Q E hr h => ?_)
  · exact sp_m_Web_tail_len h
  have hu := hu_of hr
  refine ⟨_, (pss_cons (ps_asg (pv 1) (pg_tupK (n := 2) K (by rfl) (pgs_cons (pg_name (i := 2) nd rfl (Or.inl rfl)) (pgs_cons (pg_name (i := 3) nd rfl (Or.inl rfl)) pgs_nil))))
      (pss_cons (ps_if (PW.pt (pw_or (pt_cmpR op_lt (pv 2) pe_int (nomark _)) (pw_or1 (pt_cmpR op_ge (pv 2) (pe_callB (len_K K) (by rfl) T.b_len (by decide +kernel) (pa_cons (fld_K K (pv 0) rfl) pa_nil)) (nomark _)))))
        (pss_one (ps_raise rfl (takes_of rfl rfl rfl rfl) (pmk_oex T.x_UnknownTie.T T.x_UnknownTie.init T.x_UnknownTie.fn G_x_UnknownTie (hr.mono (by decide)) T.dx_UnknownTie .nil passF (by rfl) T.g_UnknownTie (pa_cons (pv 2) pa_nil))))
        pss_nil)
      (pss_cons (ps_asg (pe_ix (ix_tK K) (fld_K K (pv 0) rfl) (pv 2) (fun _ _ => rfl)) (pg_tupK (n := 4) K (by rfl) (pgs_cons (pg_name (i := 4) nd rfl (Or.inl rfl)) (pgs_cons (pg_name (i := 5) nd rfl (Or.inl rfl)) (pgs_cons (pg_name (i := 6) nd rfl (Or.inl rfl)) (pgs_cons (pg_name (i := 7) nd rfl (Or.inl rfl)) pgs_nil))))))
      (pss_cons (ps_if (pt_cmpR op_eq (pv 3) pe_int (nomark _))
        (pss_one (ps_ret (pe_tup (pa_cons (pv 4) (pa_cons (pv 5) pa_nil)))))
        pss_nil)
      (pss_one (ps_ret (pe_tup (pa_cons (pv 6) (pa_cons (pv 7) pa_nil))))))))), ?_⟩
  try dsimp only [cxOf]
  obtain ⟨self, step, nb, h⟩ := h
  refine Zm.body (js := [0, 1, 2, 3, 4, 5, 6, 7]) (m := m_Web_tail_m self step) nb h ?_
  refine zm_to (Γ2 := [(.val (dWeb T.A) self), (.val (dPair (d1 := dInt) (d2 := dInt)) step), .no, .no, .no, .no, .no, .no]) rfl ?_
  delta m_Web_tail_m
  refine zm_setG (we_eq (we_var rfl) rfl) fun t1 => (a_pair rfl (a_name rfl (a_name rfl ⟨(wlen 8 (by exact rfl) (by exact rfl) (by decide)), ?_⟩)))
  refine zm_ifP (te_eq (te_orP (te_test (we_lt (re_w (we_var rfl)) (re_w we_int))) (te_test (we_ge (re_w (we_var rfl)) (re_w (we_lenT (re_w (we_fld (isF_Web_ties T.A) T.c_Web T.n_Web_ties (we_var rfl)))))))) rfl) ?_ ?_
  · exact zm_raise1 rfl rfl (re_eq (re_w (we_var rfl)) rfl)
  · refine zm_skip ?_
    refine zm_setG (we_eq (we_ixT (we_fld (isF_Web_ties T.A) T.c_Web T.n_Web_ties (we_var rfl)) (re_w (we_var rfl))) rfl) fun t2 => (a_T4 rfl (a_name rfl (a_name rfl (a_name rfl (a_name rfl ⟨(wlen 8 (by exact rfl) (by exact rfl) (by decide)), ?_⟩)))))
    refine zm_ifP (te_eq (te_test (we_eqS (re_w (we_var rfl)) (re_w we_int))) rfl) ?_ ?_
    · exact zm_ret (we_eq (we_tup2 (we_var rfl) (we_var rfl)) rfl)
    · refine zm_skip ?_
      refine zm_last ?_
      exact zm_ret (we_eq (we_tup2 (we_var rfl) (we_var rfl)) rfl)
end K13

namespace K13
open PySem L2 G PM
set_option maxHeartbeats 4000000 in
theorem ok_m_Web_head {P : Program} {w : World} {K : PySem.W.Frag} {mg : Str → Option Value} {base : Heap} (T : Txt K mg) (G_m_Web_back : FnOk P w K mg base (L2.CX P w) 1 T.a_m_Web_back T.f_m_Web_back ["step"] (sp_m_Web_back ⟨P, w, K⟩ T.A)) (G_m_Web_tail : FnOk P w K mg base (L2.CX P w) 3 T.a_m_Web_tail T.f_m_Web_tail ["self", "step"] (sp_m_Web_tail ⟨P, w, K⟩ T.A)) : FnOk P w K mg base (L2.CX P w) 4 T.a_m_Web_head T.f_m_Web_head ["self", "step"] (sp_m_Web_head ⟨P, w, K⟩ T.A) := by
  have nd := sc_m_Web_head.nd
  refine T.F_m_Web_head.okX sc_m_Web_head (fun vs H Q E h => ?_) (fun cdv A outer s H vs Q E hr h => ?_)
  · exact sp_m_Web_head_len h
  have hu := hu_of hr
  refine ⟨_, (pss_one (ps_ret (pe_methE (pv 0) T.c_Web T.me_m_Web_tail G_m_Web_tail (hr.mono (by decide)) T.d_m_Web_tail (fun σ => passAt (takes_of rfl rfl rfl rfl) σ) (pa_cons (pe_smethE (pe_glob (v := .ref (T.A.ob .Web)) (by rfl) T.g_Web rfl) T.sm_m_Web_back G_m_Web_back (hr.mono (by decide)) T.d_m_Web_back (fun σ => passAt (takes_of rfl rfl rfl rfl) σ) (pa_cons (pv 1) pa_nil)) pa_nil)))), ?_⟩
  try dsimp only [cxOf]
  obtain ⟨self, step, nb, h⟩ := h
  refine Zm.body (js := [0, 1]) (m := m_Web_head_m self step) nb h ?_
  refine zm_to (Γ2 := [(.val (dWeb T.A) self), (.val (dPair (d1 := dInt) (d2 := dInt)) step)]) rfl ?_
  delta m_Web_head_m
  refine zm_last ?_
  exact zm_ret (we_eq (we_meth1 hs_m_Web_tail rfl (isI_Web T.A) (by decide) (we_var rfl) (we_sm (we_call1 hs_m_Web_back rfl (we_var rfl)))) rfl)
end K13

namespace K13
open PySem L2 G PM
set_option maxHeartbeats 4000000 in
theorem ok_m_WebX_containsX {P : Program} {w : World} {K : PySem.W.Frag} {mg : Str → Option Value} {base : Heap} (T : Txt K mg) : FnOk P w K mg base (L2.CX P w) 1 T.a_m_WebX_containsX T.f_m_WebX_containsX ["self", "place"] (sp_m_WebX_containsX ⟨P, w, K⟩ T.A) := by
  have nd := sc_m_WebX_containsX.nd
  refine T.F_m_WebX_containsX.okX sc_m_WebX_containsX (fun vs H Q E h => ?_) (fun cdv A outer s H vs Q E hr h => ?_)
  · exact sp_m_WebX_containsX_len h
  have hu := hu_of hr
  refine ⟨_, (pss_one (ps_ret (pe_chain op_le op_lt pe_int (pv 1) (pe_callB (len_K K) (by rfl) T.b_len (by decide +kernel) (pa_cons (fld_K K (pv 0) rfl) pa_nil))))), ?_⟩
  try dsimp only [cxOf]
  obtain ⟨self, place, nb, h⟩ := h
  refine Zm.body (js := [0, 1]) (m := m_WebX_containsX_m self place) nb h ?_
  refine zm_to (Γ2 := [(.val (dWeb T.A) self), (.val dInt place)]) rfl ?_
  delta m_WebX_containsX_m
  refine zm_last ?_
  exact zm_ret (we_eq (we_chainP (re_w we_int) (re_w (we_var rfl)) (re_w (we_lenT (re_w (we_fld (isF_Web_sides T.A) T.c_Web T.n_Web_sides (we_var rfl)))))) rfl)
end K13

namespace K13
open PySem L2 G PM
set_option maxHeartbeats 4000000 in
theorem ok_m_Web_steps_from {P : Program} {w : World} {K : PySem.W.Frag} {mg : Str → Option Value} {base : Heap} (T : Txt K mg) (G_m_WebX_containsX : FnOk P w K mg base (L2.CX P w) 1 T.a_m_WebX_containsX T.f_m_WebX_containsX ["self", "place"] (sp_m_WebX_containsX ⟨P, w, K⟩ T.A)) (G_x_UnknownPlace : FnOk P w K mg base (L2.CX P w) 1 T.i_UnknownPlace T.fx_UnknownPlace ["self", "place"] (spX1 (T.A.tx .UnknownPlace) "place")) : FnOk P w K mg base (L2.CX P w) 3 T.a_m_Web_steps_from T.f_m_Web_steps_from ["self", "place"] (sp_m_Web_steps_from ⟨P, w, K⟩ T.A) := by
  have nd := sc_m_Web_steps_from.nd
  refine T.F_m_Web_steps_from.okX sc_m_Web_steps_from (fun vs H Q E h => ?_) (fun cdv A outer s H vs Q E hr h => ?_)
  · exact sp_m_Web_steps_from_len h
  have hu := hu_of hr
  refine ⟨_, (pss_cons (ps_if (pt_cmpR (op_niO T.me_m_WebX_containsX G_m_WebX_containsX (hr.mono (by decide)) T.d_m_WebX_containsX (fun σ => passFS σ)) (pv 1) (pv 0) (by with_unfolding_all rfl))
        (pss_one (ps_raise rfl (takes_of rfl rfl rfl rfl) (pmk_oex T.x_UnknownPlace.T T.x_UnknownPlace.init T.x_UnknownPlace.fn G_x_UnknownPlace (hr.mono (by decide)) T.dx_UnknownPlace .nil passF (by rfl) T.g_UnknownPlace (pa_cons (pv 1) pa_nil))))
        pss_nil)
      (pss_cons (ps_set (i := 2) nd rfl (Or.inl rfl) (pe_lst pa_nil))
      (pss_cons (ps_for (passes_of rfl) rfl (pi_enumT (by rfl) T.b_enumerate (pa_cons (fld_K K (pv 0) rfl) pa_nil)) (pg_tupK (n := 2) K (by rfl) (pgs_cons (pg_name (i := 3) nd rfl (Or.inl rfl)) (pgs_cons (pg_tupK (n := 4) K (by rfl) (pgs_cons (pg_name (i := 4) nd rfl (Or.inl rfl)) (pgs_cons (pg_name (i := 5) nd rfl (Or.inl rfl)) (pgs_cons (pg_name (i := 6) nd rfl (Or.inl rfl)) (pgs_cons (pg_name (i := 5) nd rfl (Or.inl rfl)) pgs_nil))))) pgs_nil)))
        (pss_cons (ps_if (pt_cmpR op_eq (pv 4) (pv 1) (nomark _))
        (pss_one (ps_expr (bm_K K PySem.F.plainAttrs_list PySem.F.slot_list_append PySem.F.type_list_append mt_append (pv 2) (pa_cons (pe_tup (pa_cons (pv 3) (pa_cons pe_int pa_nil))) pa_nil))))
        pss_nil)
      (pss_one (ps_if (pt_cmpR op_eq (pv 6) (pv 1) (nomark _))
        (pss_one (ps_expr (bm_K K PySem.F.plainAttrs_list PySem.F.slot_list_append PySem.F.type_list_append mt_append (pv 2) (pa_cons (pe_tup (pa_cons (pv 3) (pa_cons pe_int pa_nil))) pa_nil))))
        pss_nil))))
      (pss_one (ps_ret (pv 2)))))), ?_⟩
  try dsimp only [cxOf]
  obtain ⟨self, place, nb, h⟩ := h
  refine Zm.body (js := [0, 1, 2, 3, 4, 5, 6]) (m := m_Web_steps_from_m self place) nb h ?_
  refine zm_to (Γ2 := [(.val (dWeb T.A) self), (.val dInt place), .no, .no, .no, .no, .no]) rfl ?_
  delta m_Web_steps_from_m
  refine zm_if (te_eq (te_test (we_inO hs_m_WebX_containsX (isI_Web T.A) (we_var rfl) (we_var rfl))) rfl) ?_ ?_
  · exact zm_raise1 rfl rfl (re_eq (re_w (we_var rfl)) rfl)
  · refine zm_skip ?_
    refine zm_setO (i := 2) rfl (by decide) (oe_eq (oe_lst0 (d := (dPair (d1 := dInt) (d2 := dInt)))) rfl) fun found_2 => ?_
    refine zm_for [3, 4, 5, 6] (fun s3 => [(.val (dWeb T.A) self), (.val dInt place), (.own (dList (d := (dPair (d1 := dInt) (d2 := dInt)))) (oList (d := (dPair (d1 := dInt) (d2 := dInt)))) none s3), .no, .no, .no, .no]) found_2 (wlen 7 (by exact rfl) (by exact rfl) (by decide)) rfl (fun _ => (wlen 7 (by exact rfl) (by exact rfl) (by decide))) (ie_eq (ie_enumT (we_fld (isF_Web_ties T.A) T.c_Web T.n_Web_ties (we_var rfl))) rfl) (fun s3 x4 => (a_pair rfl (a_name rfl (a_T4 rfl (a_name rfl (a_name rfl (a_name rfl (a_name rfl ⟨(wlen 7 (by exact rfl) (by exact rfl) (by decide)), ?_⟩)))))))) fun s8 => ?_
    · refine zm_join [] (fun s6 => [(.val (dWeb T.A) self), (.val dInt place), (.own (dList (d := (dPair (d1 := dInt) (d2 := dInt)))) (oList (d := (dPair (d1 := dInt) (d2 := dInt)))) none s6), (.val dInt x4.1), (.val dInt x4.2.a), (.val dInt x4.2.d), (.val dInt x4.2.c)]) (fun _ => (wlen 7 (by exact rfl) (by exact rfl) (by decide))) ?_ fun s6 => ?_
      · refine zm_last (zm_ifP (te_eq (te_test (we_eqS (re_w (we_var rfl)) (re_w (we_var rfl)))) rfl) ?_ ?_)
        · refine zm_append (i := 2) rfl (by decide) (we_eq (we_tup2 (we_var rfl) we_int) rfl) fun found_5 => ?_
          exact zm_nextJ rfl
        · refine zm_skip ?_
          exact zm_nextJ rfl
      · refine zm_last ?_
        refine zm_ifP (te_eq (te_test (we_eqS (re_w (we_var rfl)) (re_w (we_var rfl)))) rfl) ?_ ?_
        · refine zm_append (i := 2) rfl (by decide) (we_eq (we_tup2 (we_var rfl) we_int) rfl) fun found_7 => ?_
          exact zm_nextL rfl
        · refine zm_skip ?_
          exact zm_nextL rfl
    · refine zm_last ?_
      exact zm_retV rfl
end K13

namespace K13
open PySem L2 G PM
set_option maxHeartbeats 4000000 in
theorem ok_p_followers {P : Program} {w : World} {K : PySem.W.Frag} {mg : Str → Option Value} {base : Heap} (T : Txt K mg) (G_m_Web_head : FnOk P w K mg base (L2.CX P w) 4 T.a_m_Web_head T.f_m_Web_head ["self", "step"] (sp_m_Web_head ⟨P, w, K⟩ T.A)) (G_m_Web_steps_from : FnOk P w K mg base (L2.CX P w) 3 T.a_m_Web_steps_from T.f_m_Web_steps_from ["self", "place"] (sp_m_Web_steps_from ⟨P, w, K⟩ T.A)) (G_m_Web_tail : FnOk P w K mg base (L2.CX P w) 3 T.a_m_Web_tail T.f_m_Web_tail ["self", "step"] (sp_m_Web_tail ⟨P, w, K⟩ T.A)) : FnOk P w K mg base (L2.CX P w) 5 T.a_p_followers T.f_p_followers ["web", "step"] (sp_p_followers ⟨P, w, K⟩ T.A) := by
  have nd := sc_p_followers.nd
  refine T.F_p_followers.okX sc_p_followers (fun vs H Q E h => ?_) (fun cdv A outer s H vs Q E hr h => ?_)
  · exact sp_p_followers_len h
  have hu := hu_of hr
  refine ⟨_, (pss_cons (ps_asg (pe_methE (pv 0) T.c_Web T.me_m_Web_head G_m_Web_head (hr.mono (by decide)) T.d_m_Web_head (fun σ => passAt (takes_of rfl rfl rfl rfl) σ) (pa_cons (pv 1) pa_nil)) (pg_tupK (n := 2) K (by rfl) (pgs_cons (pg_name (i := 2) nd rfl (Or.inl rfl)) (pgs_cons (pg_name (i := 3) nd rfl (Or.inr rfl)) pgs_nil))))
      (pss_one (ps_ret (pe_lc (own := [("after", 4)]) (by rfl) nd (pi_lB K (pe_methE (pv 0) T.c_Web T.me_m_Web_steps_from G_m_Web_steps_from (hr.mono (by decide)) T.d_m_Web_steps_from (fun σ => passAt (takes_of rfl rfl rfl rfl) σ) (pa_cons (pv 2) pa_nil))) (blkOk_by (own := [("after", 4)]) (N := N_p_followers) (sc := defScope s_p_followers) (by decide +kernel)) (fun _ _ _ _ _ => (pg_name (i := 4) nd rfl (Or.inl rfl))) (fun _ _ _ _ _ => (pts_one (pt_cmpR op_ne (pe_ix (ix_tK K) (pe_methE (pv 0) T.c_Web T.me_m_Web_tail G_m_Web_tail (hr.mono (by decide)) T.d_m_Web_tail (fun σ => passFS σ) (pa_cons (pv 4) pa_nil)) pe_int (fun _ _ => rfl)) (pv 3) (nomark _)))) (fun _ _ _ _ _ => (pv 4)))))), ?_⟩
  try dsimp only [cxOf]
  obtain ⟨web, step, nb, h⟩ := h
  refine Zm.body (js := [0, 1, 2, 3, 4]) (m := p_followers_m web step) nb h ?_
  refine zm_to (Γ2 := [(.val (dWeb T.A) web), (.val (dPair (d1 := dInt) (d2 := dInt)) step), .no, .no, .no]) rfl ?_
  delta p_followers_m
  refine zm_setG (we_eq (we_meth1 hs_m_Web_head rfl (isI_Web T.A) (by decide) (we_var rfl) (we_var rfl)) rfl) fun t1 => (a_pair rfl (a_name rfl (a_name rfl ⟨(wlen 5 (by exact rfl) (by exact rfl) (by decide)), ?_⟩)))
  refine zm_last ?_
  exact zm_retO (oe_eq (oe_lc (tg_name' (by decide)) (ic_list (we_o (oe_meth1 hs_m_Web_steps_from rfl (isI_Web T.A) (by decide) (we_var rfl) (we_var rfl)))) fun x2 => (a_name rfl ⟨(te_test (we_neS (re_w (we_snd (we_meth1 hs_m_Web_tail rfl (isI_Web T.A) (by decide) (we_var rfl) (we_var rfl)))) (re_w (we_var rfl)))), (we_var rfl)⟩)) rfl)
end K13

namespace K13
open PySem L2 G PM
set_option maxHeartbeats 4000000 in
theorem ok_p_is_facing {P : Program} {w : World} {K : PySem.W.Frag} {mg : Str → Option Value} {base : Heap} (T : Txt K mg) (G_p_every_step : FnOk P w K mg base (L2.CX P w) 1 T.a_p_every_step T.f_p_every_step ["web"] (sp_p_every_step ⟨P, w, K⟩ T.A)) (G_p_followers : FnOk P w K mg base (L2.CX P w) 5 T.a_p_followers T.f_p_followers ["web", "step"] (sp_p_followers ⟨P, w, K⟩ T.A)) : FnOk P w K mg base (L2.CX P w) 6 T.a_p_is_facing T.f_p_is_facing ["web", "directions"] (sp_p_is_facing ⟨P, w, K⟩ T.A) := by
  have nd := sc_p_is_facing.nd
  refine T.F_p_is_facing.okX sc_p_is_facing (fun vs H Q E h => ?_) (fun cdv A outer s H vs Q E hr h => ?_)
  · exact sp_p_is_facing_len h
  have hu := hu_of hr
  refine ⟨_, (pss_cons (ps_if (PW.pt (pw_or (pt_cmpR op_ne (pe_callB (len_K K) (by rfl) T.b_len (by decide +kernel) (pa_cons (pv 1) pa_nil)) (pe_callB (len_K K) (by rfl) T.b_len (by decide +kernel) (pa_cons (fld_K K (pv 0) rfl) pa_nil)) (nomark _)) (pw_or1 (pt_not (pt_val (pe_callB (all_K K rfl) (by rfl) T.b_all (by decide +kernel) (pa_cons (pe_lc (own := [("direction", 2)]) (by rfl) nd (pi_lB K (pv 1)) (blkOk_by (own := [("direction", 2)]) (N := N_p_is_facing) (sc := defScope s_p_is_facing) (by decide +kernel)) (fun _ _ _ _ _ => (pg_name (i := 2) nd rfl (Or.inl rfl))) (fun _ _ _ _ _ => pts_nil) (fun _ _ _ _ _ => (pe_cmpR (op_inK K) (pv 2) (pe_tup (pa_cons pe_int (pa_cons pe_int pa_nil))) (by with_unfolding_all rfl)))) pa_nil)))))))
        (pss_one (ps_ret pe_bl))
        pss_nil)
      (pss_cons (ps_for (passes_of rfl) rfl (pi_lK K (pe_callS G_p_every_step (hr.mono (by decide)) (by rfl) T.g_p_every_step T.F_p_every_step.kp T.d_p_every_step (fun σ => passAt (takes_of rfl rfl rfl rfl) σ) (pa_cons (pv 0) pa_nil))) (pg_name (i := 3) nd rfl (Or.inl rfl))
        (pss_cons (ps_set (i := 4) nd rfl (Or.inl rfl) (pe_cmpR op_eq (pe_ix (ix_tK K) (pv 3) pe_int (fun _ _ => rfl)) (pe_ix (ix_lK K) (pv 1) (pe_ix (ix_tK K) (pv 3) pe_int (fun _ _ => rfl)) (fun _ _ => rfl)) (nomark _)))
      (pss_one (ps_for (passes_of rfl) rfl (pi_lK K (pe_callS G_p_followers (hr.mono (by decide)) (by rfl) T.g_p_followers T.F_p_followers.kp T.d_p_followers (fun σ => passAt (takes_of rfl rfl rfl rfl) σ) (pa_cons (pv 0) (pa_cons (pv 3) pa_nil)))) (pg_tupK (n := 2) K (by rfl) (pgs_cons (pg_name (i := 5) nd rfl (Or.inl rfl)) (pgs_cons (pg_name (i := 2) nd rfl (Or.inl rfl)) pgs_nil)))
        (pss_one (ps_if (pt_cmpR op_ne (pe_cmpR op_eq (pv 2) (pe_ix (ix_lK K) (pv 1) (pv 5) (fun _ _ => rfl)) (nomark _)) (pv 4) (nomark _))
        (pss_one (ps_ret pe_bl))
        pss_nil))))))
      (pss_one (ps_ret pe_bl)))), ?_⟩
  try dsimp only [cxOf]
  obtain ⟨web, directions, nb, h⟩ := h
  refine Zm.body (js := [0, 1, 2, 3, 4, 5]) (m := p_is_facing_m web directions) nb h ?_
  refine zm_to (Γ2 := [(.val (dWeb T.A) web), (.val (dList (d := dInt)) directions), .no, .no, .no, .no]) rfl ?_
  delta p_is_facing_m
  refine zm_if (te_eq (te_or (te_test (we_neS (re_w (we_len (re_w (we_var rfl)))) (re_w (we_lenT (re_w (we_fld (isF_Web_ties T.A) T.c_Web T.n_Web_ties (we_var rfl))))))) (te_not (te_B (we_all (re_w (we_o (oe_lc (tg_name' (by decide)) (ic_list (we_var rfl)) fun x1 => (a_name rfl ⟨te_yes, (we_inT (re_w (we_var rfl)) (re_w (we_pairL (we_tup2 we_int we_int))))⟩)))))))) rfl) ?_ ?_
  · exact zm_ret (we_eq we_bl rfl)
  · refine zm_skip ?_
    refine zm_forC [2, 3, 4, 5] (fun (_ : Unit) => [(.val (dWeb T.A) web), (.val (dList (d := dInt)) directions), .no, .no, .no, .no]) (fun r => .val dBool r) () (wlen 6 (by exact rfl) (by exact rfl) (by decide)) rfl (fun _ => (wlen 6 (by exact rfl) (by exact rfl) (by decide))) (ie_eq (ie_list (we_o (oe_call1 hs_p_every_step rfl (we_var rfl)))) rfl) (fun _ x5 => (a_name rfl ⟨(wlen 6 (by exact rfl) (by exact rfl) (by decide)), ?_⟩)) rt_KF fun _ => ?_
    · refine zm_set (i := 4) rfl (by decide) (we_eq (we_eqS (re_w (we_snd (we_var rfl))) (re_w (we_ix (we_var rfl) (re_w (we_fst (we_var rfl)))))) rfl) fun along_7 => ?_
      refine zm_last ?_
      refine zm_forC [2, 5] (fun (_ : Unit) => [(.val (dWeb T.A) web), (.val (dList (d := dInt)) directions), .no, (.val (dPair (d1 := dInt) (d2 := dInt)) x5), (.val dBool along_7), .no]) (fun r => .val dBool r) () (wlen 6 (by exact rfl) (by exact rfl) (by decide)) rfl (fun _ => (wlen 6 (by exact rfl) (by exact rfl) (by decide))) (ie_eq (ie_list (we_o (oe_call2 hs_p_followers rfl (we_var rfl) (we_var rfl)))) rfl) (fun _ x9 => (a_pair rfl (a_name rfl (a_name rfl ⟨(wlen 6 (by exact rfl) (by exact rfl) (by decide)), ?_⟩)))) rt_KC fun _ => ?_
      · refine zm_last ?_
        refine zm_if (te_eq (te_test (we_neS (re_w (we_eqS (re_w (we_var rfl)) (re_w (we_ix (we_var rfl) (re_w (we_var rfl)))))) (re_w (we_var rfl)))) rfl) ?_ ?_
        · exact zm_retC (we_eq we_bl rfl)
        · refine zm_skip ?_
          exact zm_nextC rfl
      · exact zm_nextC rfl
    · refine zm_last ?_
      exact zm_ret (we_eq we_bl rfl)
end K13

namespace K13
open PySem L2 G PM
set_option maxHeartbeats 4000000 in
theorem ok_l_same {P : Program} {w : World} {K : PySem.W.Frag} {mg : Str → Option Value} {base : Heap} (T : Txt K mg) : ∀ n : Nat, FnOk P w K mg base (L2.CX P w) (n + 1) T.a_l_same T.f_l_same ["_law_told", "_law_due"] (sp_l_same n ⟨P, w, K⟩ T.A) := by
  have nd := sc_l_same.nd
  intro n
  induction n with
  | zero =>
    refine T.F_l_same.okX sc_l_same (fun vs H Q E h => ?_) (fun cdv A outer s H vs Q E hr h => ?_)
    · exact sp_l_same_len h
    · obtain ⟨told, due, nb, _⟩ := h; exact absurd rfl nb
  | succ fl G_l_same =>
    refine T.F_l_same.okX sc_l_same (fun vs H Q E h => ?_) (fun cdv A outer s H vs Q E hr h => ?_)
    · exact sp_l_same_len h
    have hu := hu_of hr
    refine ⟨_, (pss_cons (ps_if (pt_cmpR op_isN (pv 1) pe_non (nomark _))
        (pss_one (ps_ret (pe_cmpR op_isN (pv 0) pe_non (nomark _))))
        pss_nil)
      (pss_cons (ps_if (pt_val (pe_callB (isi_K K) (by rfl) T.b_isinstance (by decide +kernel) (pa_cons (pv 1) (pa_cons (pe_bltn (v := .ty "bool") (by rfl) T.b_bool (by decide +kernel) rfl) pa_nil))))
        (pss_one (ps_ret (pe_and (pe_callB (isi_K K) (by rfl) T.b_isinstance (by decide +kernel) (pa_cons (pv 0) (pa_cons (pe_bltn (v := .ty "bool") (by rfl) T.b_bool (by decide +kernel) rfl) pa_nil))) (pe_one (pe_cmpR (op_eqDK K (hu64 hr)) (pv 0) (pv 1) (nomark _))))))
        pss_nil)
      (pss_cons (ps_if (pt_val (pe_callB (isi_K K) (by rfl) T.b_isinstance (by decide +kernel) (pa_cons (pv 1) (pa_cons (pe_bltn (v := .ty "int") (by rfl) T.b_int (by decide +kernel) rfl) pa_nil))))
        (pss_one (ps_ret (pe_and (pe_callB (isi_K K) (by rfl) T.b_isinstance (by decide +kernel) (pa_cons (pv 0) (pa_cons (pe_bltn (v := .ty "int") (by rfl) T.b_int (by decide +kernel) rfl) pa_nil))) (pe_and (pe_not (pe_callB (isi_K K) (by rfl) T.b_isinstance (by decide +kernel) (pa_cons (pv 0) (pa_cons (pe_bltn (v := .ty "bool") (by rfl) T.b_bool (by decide +kernel) rfl) pa_nil)))) (pe_one (pe_cmpR (op_eqDK K (hu64 hr)) (pv 0) (pv 1) (nomark _)))))))
        pss_nil)
      (pss_cons (ps_if (pt_val (pe_callB (isi_K K) (by rfl) T.b_isinstance (by decide +kernel) (pa_cons (pv 1) (pa_cons (pe_bltn (v := .ty "str") (by rfl) T.b_str (by decide +kernel) rfl) pa_nil))))
        (pss_one (ps_ret (pe_and (pe_callB (isi_K K) (by rfl) T.b_isinstance (by decide +kernel) (pa_cons (pv 0) (pa_cons (pe_bltn (v := .ty "str") (by rfl) T.b_str (by decide +kernel) rfl) pa_nil))) (pe_one (pe_cmpR (op_eqDK K (hu64 hr)) (pv 0) (pv 1) (nomark _))))))
        pss_nil)
      (pss_cons (ps_if (PW.pt (pw_and (pt_val (pe_callB (isi_K K) (by rfl) T.b_isinstance (by decide +kernel) (pa_cons (pv 1) (pa_cons (pe_bltn (v := .ty "list") (by rfl) T.b_list (by decide +kernel) rfl) pa_nil)))) (pw_and1 (pt_not (pt_val (pe_callB (isi_K K) (by rfl) T.b_isinstance (by decide +kernel) (pa_cons (pv 0) (pa_cons (pe_bltn (v := .ty "list") (by rfl) T.b_list (by decide +kernel) rfl) pa_nil))))))))
        (pss_one (ps_ret pe_bl))
        pss_nil)
      (pss_cons (ps_if (PW.pt (pw_and (pt_val (pe_callB (isi_K K) (by rfl) T.b_isinstance (by decide +kernel) (pa_cons (pv 1) (pa_cons (pe_bltn (v := .ty "tuple") (by rfl) T.b_tuple (by decide +kernel) rfl) pa_nil)))) (pw_and1 (pt_not (pt_val (pe_callB (isi_K K) (by rfl) T.b_isinstance (by decide +kernel) (pa_cons (pv 0) (pa_cons (pe_bltn (v := .ty "tuple") (by rfl) T.b_tuple (by decide +kernel) rfl) pa_nil))))))))
        (pss_one (ps_ret pe_bl))
        pss_nil)
      (pss_cons (ps_if (pt_cmpR op_ne (pe_callB (len_K K) (by rfl) T.b_len (by decide +kernel) (pa_cons (pv 0) pa_nil)) (pe_callB (len_K K) (by rfl) T.b_len (by decide +kernel) (pa_cons (pv 1) pa_nil)) (nomark _))
        (pss_one (ps_ret pe_bl))
        pss_nil)
      (pss_cons (ps_for (passes_of rfl) rfl (pi_range1 (by rfl) T.b_range (pa_cons (pe_callB (len_K K) (by rfl) T.b_len (by decide +kernel) (pa_cons (pv 1) pa_nil)) pa_nil)) (pg_name (i := 2) nd rfl (Or.inl rfl))
        (pss_one (ps_if (pt_not (pt_val (pe_callS G_l_same (hr.mono (by omega)) (by rfl) T.g_l_same T.F_l_same.kp T.d_l_same (fun σ => passAt (takes_of rfl rfl rfl rfl) σ) (pa_cons (pe_ix (ix_qK K) (pv 0) (pv 2) (fun _ _ => rfl)) (pa_cons (pe_ix (ix_qK K) (pv 1) (pv 2) (fun _ _ => rfl)) pa_nil)))))
        (pss_one (ps_ret pe_bl))
        pss_nil)))
      (pss_one (ps_ret pe_bl)))))))))), ?_⟩
    try dsimp only [cxOf]
    obtain ⟨told, due, nb, h⟩ := h
    refine Zm.body (js := [0, 1, 2]) (m := l_same_m (fl + 1) told due) nb h ?_
    refine zm_to (Γ2 := [(.val dU told), (.val dU due), .no]) rfl ?_
    show Zm _ _ _ _ _ _ (l_same_step (l_same_m fl) told due)
    delta l_same_step
    refine zm_ifP (te_eq (te_test (we_isNU (re_w (we_var rfl)))) rfl) ?_ ?_
    · exact zm_ret (we_eq (we_isNU (re_w (we_var rfl))) rfl)
    · refine zm_skip ?_
      refine zm_ifP (te_eq (te_B (we_isU (by decide) (re_w (we_var rfl)))) rfl) ?_ ?_
      · exact zm_ret (we_eq (we_and (we_isU (by decide) (re_w (we_var rfl))) (we_eqU (re_w (we_var rfl)) (re_w (we_var rfl)))) rfl)
      · refine zm_skip ?_
        refine zm_ifP (te_eq (te_B (we_isU (by decide) (re_w (we_var rfl)))) rfl) ?_ ?_
        · exact zm_ret (we_eq (we_and (we_isU (by decide) (re_w (we_var rfl))) (we_and (we_not (we_isU (by decide) (re_w (we_var rfl)))) (we_eqU (re_w (we_var rfl)) (re_w (we_var rfl))))) rfl)
        · refine zm_skip ?_
          refine zm_ifP (te_eq (te_B (we_isU (by decide) (re_w (we_var rfl)))) rfl) ?_ ?_
          · exact zm_ret (we_eq (we_and (we_isU (by decide) (re_w (we_var rfl))) (we_eqU (re_w (we_var rfl)) (re_w (we_var rfl)))) rfl)
          · refine zm_skip ?_
            refine zm_ifP (te_eq (te_andP (te_B (we_isU (by decide) (re_w (we_var rfl)))) (te_not (te_B (we_isU (by decide) (re_w (we_var rfl)))))) rfl) ?_ ?_
            · exact zm_ret (we_eq we_bl rfl)
            · refine zm_skip ?_
              refine zm_ifP (te_eq (te_andP (te_B (we_isU (by decide) (re_w (we_var rfl)))) (te_not (te_B (we_isU (by decide) (re_w (we_var rfl)))))) rfl) ?_ ?_
              · exact zm_ret (we_eq we_bl rfl)
              · refine zm_skip ?_
                refine zm_if (te_eq (te_test (we_neS (re_w (we_lenQ (re_w (we_sqU (we_var rfl))))) (re_w (we_lenQ (re_w (we_sqU (we_var rfl))))))) rfl) ?_ ?_
                · exact zm_ret (we_eq we_bl rfl)
                · refine zm_skip ?_
                  refine zm_forC [2] (fun (_ : Unit) => [(.val dU told), (.val dU due), .no]) (fun r => .val dBool r) () (wlen 3 (by exact rfl) (by exact rfl) (by decide)) rfl (fun _ => (wlen 3 (by exact rfl) (by exact rfl) (by decide))) (ie_eq (ie_range (re_w (we_lenQ (re_w (we_sqU (we_var rfl)))))) rfl) (fun _ x8 => (a_name rfl ⟨(wlen 3 (by exact rfl) (by exact rfl) (by decide)), ?_⟩)) rt_KF fun _ => ?_
                  · refine zm_last ?_
                    refine zm_if (te_eq (te_not (te_B (we_call2 hs_l_same rfl (we_ixQ (we_sqU (we_var rfl)) (re_w (we_var rfl))) (we_ixQ (we_sqU (we_var rfl)) (re_w (we_var rfl)))))) rfl) ?_ ?_
                    · exact zm_retC (we_eq we_bl rfl)
                    · refine zm_skip ?_
                      exact zm_nextC rfl
                  · refine zm_last ?_
                    exact zm_ret (we_eq we_bl rfl)
end K13

namespace K13
open PySem L2 G PM
set_option maxHeartbeats 4000000 in
theorem ok_p_is_facing_v2 {P : Program} {w : World} {K : PySem.W.Frag} {mg : Str → Option Value} {base : Heap} (T : Txt K mg) (G_p_every_step : FnOk P w K mg base (L2.CX P w) 1 T.a_p_every_step T.f_p_every_step ["web"] (sp_p_every_step ⟨P, w, K⟩ T.A)) (G_p_followers : FnOk P w K mg base (L2.CX P w) 5 T.a_p_followers T.f_p_followers ["web", "step"] (sp_p_followers ⟨P, w, K⟩ T.A)) : FnOk P w K mg base (L2.CX P w) 6 T.a_p_is_facing T.f_p_is_facing ["web", "directions"] (sp_p_is_facing_v2 ⟨P, w, K⟩ T.A) := by
  have nd := sc_p_is_facing.nd
  refine T.F_p_is_facing.okX sc_p_is_facing (fun vs H Q E h => ?_) (fun cdv A outer s H vs Q E hr h => ?_)
  · exact sp_p_is_facing_v2_len h
  have hu := hu_of hr
  refine ⟨_, (pss_cons (ps_if (PW.pt (pw_or (pt_cmpR op_ne (pe_callB (len_K K) (by rfl) T.b_len (by decide +kernel) (pa_cons (pv 1) pa_nil)) (pe_callB (len_K K) (by rfl) T.b_len (by decide +kernel) (pa_cons (fld_K K (pv 0) rfl) pa_nil)) (nomark _)) (pw_or1 (pt_not (pt_val (pe_callB (all_K K rfl) (by rfl) T.b_all (by decide +kernel) (pa_cons (pe_lc (own := [("direction", 2)]) (by rfl) nd (pi_tB K (pv 1)) (blkOk_by (own := [("direction", 2)]) (N := N_p_is_facing) (sc := defScope s_p_is_facing) (by decide +kernel)) (fun _ _ _ _ _ => (pg_name (i := 2) nd rfl (Or.inl rfl))) (fun _ _ _ _ _ => pts_nil) (fun _ _ _ _ _ => (pe_cmpR (op_inK K) (pv 2) (pe_tup (pa_cons pe_int (pa_cons pe_int pa_nil))) (by with_unfolding_all rfl)))) pa_nil)))))))
        (pss_one (ps_ret pe_bl))
        pss_nil)
      (pss_cons (ps_for (passes_of rfl) rfl (pi_lK K (pe_callS G_p_every_step (hr.mono (by decide)) (by rfl) T.g_p_every_step T.F_p_every_step.kp T.d_p_every_step (fun σ => passAt (takes_of rfl rfl rfl rfl) σ) (pa_cons (pv 0) pa_nil))) (pg_name (i := 3) nd rfl (Or.inl rfl))
        (pss_cons (ps_set (i := 4) nd rfl (Or.inl rfl) (pe_cmpR op_eq (pe_ix (ix_tK K) (pv 3) pe_int (fun _ _ => rfl)) (pe_ix (ix_tK K) (pv 1) (pe_ix (ix_tK K) (pv 3) pe_int (fun _ _ => rfl)) (fun _ _ => rfl)) (nomark _)))
      (pss_one (ps_for (passes_of rfl) rfl (pi_lK K (pe_callS G_p_followers (hr.mono (by decide)) (by rfl) T.g_p_followers T.F_p_followers.kp T.d_p_followers (fun σ => passAt (takes_of rfl rfl rfl rfl) σ) (pa_cons (pv 0) (pa_cons (pv 3) pa_nil)))) (pg_tupK (n := 2) K (by rfl) (pgs_cons (pg_name (i := 5) nd rfl (Or.inl rfl)) (pgs_cons (pg_name (i := 2) nd rfl (Or.inl rfl)) pgs_nil)))
        (pss_one (ps_if (pt_cmpR op_ne (pe_cmpR op_eq (pv 2) (pe_ix (ix_tK K) (pv 1) (pv 5) (fun _ _ => rfl)) (nomark _)) (pv 4) (nomark _))
        (pss_one (ps_ret pe_bl))
        pss_nil))))))
      (pss_one (ps_ret pe_bl)))), ?_⟩
  try dsimp only [cxOf]
  obtain ⟨web, directions, nb, h⟩ := h
  refine Zm.body (js := [0, 1, 2, 3, 4, 5]) (m := p_is_facing_v2_m web directions) nb h ?_
  refine zm_to (Γ2 := [(.val (dWeb T.A) web), (.val (dTup (d := dInt)) directions), .no, .no, .no, .no]) rfl ?_
  delta p_is_facing_v2_m
  refine zm_if (te_eq (te_or (te_test (we_neS (re_w (we_lenT (re_w (we_var rfl)))) (re_w (we_lenT (re_w (we_fld (isF_Web_ties T.A) T.c_Web T.n_Web_ties (we_var rfl))))))) (te_not (te_B (we_all (re_w (we_o (oe_lc (tg_name' (by decide)) (ic_tup (we_var rfl)) fun x1 => (a_name rfl ⟨te_yes, (we_inT (re_w (we_var rfl)) (re_w (we_pairL (we_tup2 we_int we_int))))⟩)))))))) rfl) ?_ ?_
  · exact zm_ret (we_eq we_bl rfl)
  · refine zm_skip ?_
    refine zm_forC [2, 3, 4, 5] (fun (_ : Unit) => [(.val (dWeb T.A) web), (.val (dTup (d := dInt)) directions), .no, .no, .no, .no]) (fun r => .val dBool r) () (wlen 6 (by exact rfl) (by exact rfl) (by decide)) rfl (fun _ => (wlen 6 (by exact rfl) (by exact rfl) (by decide))) (ie_eq (ie_list (we_o (oe_call1 hs_p_every_step rfl (we_var rfl)))) rfl) (fun _ x5 => (a_name rfl ⟨(wlen 6 (by exact rfl) (by exact rfl) (by decide)), ?_⟩)) rt_KF fun _ => ?_
    · refine zm_set (i := 4) rfl (by decide) (we_eq (we_eqS (re_w (we_snd (we_var rfl))) (re_w (we_ixT (we_var rfl) (re_w (we_fst (we_var rfl)))))) rfl) fun along_7 => ?_
      refine zm_last ?_
      refine zm_forC [2, 5] (fun (_ : Unit) => [(.val (dWeb T.A) web), (.val (dTup (d := dInt)) directions), .no, (.val (dPair (d1 := dInt) (d2 := dInt)) x5), (.val dBool along_7), .no]) (fun r => .val dBool r) () (wlen 6 (by exact rfl) (by exact rfl) (by decide)) rfl (fun _ => (wlen 6 (by exact rfl) (by exact rfl) (by decide))) (ie_eq (ie_list (we_o (oe_call2 hs_p_followers rfl (we_var rfl) (we_var rfl)))) rfl) (fun _ x9 => (a_pair rfl (a_name rfl (a_name rfl ⟨(wlen 6 (by exact rfl) (by exact rfl) (by decide)), ?_⟩)))) rt_KC fun _ => ?_
      · refine zm_last ?_
        refine zm_if (te_eq (te_test (we_neS (re_w (we_eqS (re_w (we_var rfl)) (re_w (we_ixT (we_var rfl) (re_w (we_var rfl)))))) (re_w (we_var rfl)))) rfl) ?_ ?_
        · exact zm_retC (we_eq we_bl rfl)
        · refine zm_skip ?_
          exact zm_nextC rfl
      · exact zm_nextC rfl
    · refine zm_last ?_
      exact zm_ret (we_eq we_bl rfl)
end K13

namespace K13
open PySem L2 G PM
set_option maxHeartbeats 4000000 in
theorem ok_p_steps_alike {P : Program} {w : World} {K : PySem.W.Frag} {mg : Str → Option Value} {base : Heap} (T : Txt K mg) (G_p_followers : FnOk P w K mg base (L2.CX P w) 5 T.a_p_followers T.f_p_followers ["web", "step"] (sp_p_followers ⟨P, w, K⟩ T.A)) (G_m_Web_back : FnOk P w K mg base (L2.CX P w) 1 T.a_m_Web_back T.f_m_Web_back ["step"] (sp_m_Web_back ⟨P, w, K⟩ T.A)) : FnOk P w K mg base (L2.CX P w) 6 T.a_p_steps_alike T.f_p_steps_alike ["web", "step"] (sp_p_steps_alike ⟨P, w, K⟩ T.A) := by
  have nd := sc_p_steps_alike.nd
  refine T.F_p_steps_alike.okX sc_p_steps_alike (fun vs H Q E h => ?_) (fun cdv A outer s H vs Q E hr h => ?_)
  · exact sp_p_steps_alike_len h
  have hu := hu_of hr
  refine ⟨_, (pss_one (ps_ret (pe_op op_catR (pe_callS G_p_followers (hr.mono (by decide)) (by rfl) T.g_p_followers T.F_p_followers.kp T.d_p_followers (fun σ => passAt (takes_of rfl rfl rfl rfl) σ) (pa_cons (pv 0) (pa_cons (pv 1) pa_nil))) (pe_lc (own := [("after", 2)]) (by rfl) nd (pi_lB K (pe_callS G_p_followers (hr.mono (by decide)) (by rfl) T.g_p_followers T.F_p_followers.kp T.d_p_followers (fun σ => passAt (takes_of rfl rfl rfl rfl) σ) (pa_cons (pv 0) (pa_cons (pe_smethE (pe_glob (v := .ref (T.A.ob .Web)) (by rfl) T.g_Web rfl) T.sm_m_Web_back G_m_Web_back (hr.mono (by decide)) T.d_m_Web_back (fun σ => passAt (takes_of rfl rfl rfl rfl) σ) (pa_cons (pv 1) pa_nil)) pa_nil)))) (blkOk_by (own := [("after", 2)]) (N := N_p_steps_alike) (sc := defScope s_p_steps_alike) (by decide +kernel)) (fun _ _ _ _ _ => (pg_name (i := 2) nd rfl (Or.inl rfl))) (fun _ _ _ _ _ => pts_nil) (fun _ _ _ _ _ => (pe_smethE (pe_glob (v := .ref (T.A.ob .Web)) (by rfl) T.g_Web rfl) T.sm_m_Web_back G_m_Web_back (hr.mono (by decide)) T.d_m_Web_back (fun σ => passFS σ) (pa_cons (pv 2) pa_nil))))))), ?_⟩
  try dsimp only [cxOf]
  obtain ⟨web, step, nb, h⟩ := h
  refine Zm.body (js := [0, 1, 2]) (m := p_steps_alike_m web step) nb h ?_
  refine zm_to (Γ2 := [(.val (dWeb T.A) web), (.val (dPair (d1 := dInt) (d2 := dInt)) step), .no]) rfl ?_
  delta p_steps_alike_m
  refine zm_last ?_
  exact zm_retO (oe_eq (oe_cat (we_o (oe_call2 hs_p_followers rfl (we_var rfl) (we_var rfl))) (we_o (oe_lc (tg_name' (by decide)) (ic_list (we_o (oe_call2 hs_p_followers rfl (we_var rfl) (we_sm (we_call1 hs_m_Web_back rfl (we_var rfl)))))) fun x2 => (a_name rfl ⟨te_yes, (we_sm (we_call1 hs_m_Web_back rfl (we_var rfl)))⟩)))) rfl)
end K13

namespace K13
open PySem L2 G PM
set_option maxHeartbeats 4000000 in
theorem ok_p_facing {P : Program} {w : World} {K : PySem.W.Frag} {mg : Str → Option Value} {base : Heap} (T : Txt K mg) (G_p_steps_alike : FnOk P w K mg base (L2.CX P w) 6 T.a_p_steps_alike T.f_p_steps_alike ["web", "step"] (sp_p_steps_alike ⟨P, w, K⟩ T.A)) (G_p_is_facing : FnOk P w K mg base (L2.CX P w) 6 T.a_p_is_facing T.f_p_is_facing ["web", "directions"] (sp_p_is_facing ⟨P, w, K⟩ T.A)) : FnOk P w K mg base (L2.CX P w) 7 T.a_p_facing T.f_p_facing ["web"] (sp_p_facing ⟨P, w, K⟩ T.A) := by
  have nd := sc_p_facing.nd
  refine T.F_p_facing.okX sc_p_facing (fun vs H Q E h => ?_) (fun cdv A outer s H vs Q E hr h => ?_)
  · exact sp_p_facing_len h
  have hu := hu_of hr
  refine ⟨_, (pss_cons (ps_set (i := 1) nd rfl (Or.inr rfl) pe_dnewK)
      (pss_cons (ps_for (passes_of rfl) rfl (pi_range1 (by rfl) T.b_range (pa_cons (pe_callB (len_K K) (by rfl) T.b_len (by decide +kernel) (pa_cons (fld_K K (pv 0) rfl) pa_nil)) pa_nil)) (pg_name (i := 2) nd rfl (Or.inl rfl))
        (pss_one (ps_if (pt_cmp (pc_dnotin hu (pv 2) (pv 1)))
        (pss_cons (ps_dput hu (pv 1) (pv 2) pe_int rfl)
      (pss_cons (ps_set (i := 3) nd rfl (Or.inl rfl) (pe_lst (pa_cons (pe_tup (pa_cons (pv 2) (pa_cons pe_int pa_nil))) pa_nil)))
      (pss_one (ps_while (passes_of rfl) (truth_K K (pv 3) (by intro _; rfl))
        (pss_cons (ps_set (i := 4) nd rfl (Or.inl rfl) (bm0_K K PySem.F.plainAttrs_list PySem.F.slot_list_pop PySem.F.type_list_pop mt_pop (pv 3)))
      (pss_one (ps_for (passes_of rfl) rfl (pi_lK K (pe_callS G_p_steps_alike (hr.mono (by decide)) (by rfl) T.g_p_steps_alike T.F_p_steps_alike.kp T.d_p_steps_alike (fun σ => passAt (takes_of rfl rfl rfl rfl) σ) (pa_cons (pv 0) (pa_cons (pv 4) pa_nil)))) (pg_tupK (n := 2) K (by rfl) (pgs_cons (pg_name (i := 5) nd rfl (Or.inl rfl)) (pgs_cons (pg_name (i := 6) nd rfl (Or.inl rfl)) pgs_nil)))
        (pss_one (ps_if (pt_cmp (pc_dnotin hu (pv 5) (pv 1)))
        (pss_cons (ps_dput hu (pv 1) (pv 5) (pv 6) rfl)
      (pss_one (ps_expr (bm_K K PySem.F.plainAttrs_list PySem.F.slot_list_append PySem.F.type_list_append mt_append (pv 3) (pa_cons (pe_tup (pa_cons (pv 5) (pa_cons (pv 6) pa_nil))) pa_nil)))))
        pss_nil)))))))))
        pss_nil)))
      (pss_cons (ps_setLc (i := 7) (own := [("tie", 5)]) (by rfl) nd rfl rfl (sw_true rfl rfl rfl (by decide +kernel)) (pi_range1 (by rfl) T.b_range (pa_cons (pe_callB (len_K K) (by rfl) T.b_len (by decide +kernel) (pa_cons (fld_K K (pv 0) rfl) pa_nil)) pa_nil)) (blkOk_by (own := [("tie", 5)]) (N := N_p_facing) (sc := defScope s_p_facing) (by decide +kernel)) (fun _ _ _ _ _ => (pg_name (i := 5) nd rfl (Or.inl rfl))) (fun _ _ _ _ _ => pts_nil) (fun _ _ _ _ _ => (pe_dget hu (pv 1) (pv 5) (fun _ _ => rfl))))
      (pss_cons (ps_if (pt_val (pe_callS G_p_is_facing (hr.mono (by decide)) (by rfl) T.g_p_is_facing T.F_p_is_facing.kp T.d_p_is_facing (fun σ => passAt (takes_of rfl rfl rfl rfl) σ) (pa_cons (pv 0) (pa_cons (pv 7) pa_nil))))
        (pss_one (ps_ret (pv 7)))
        pss_nil)
      (pss_one (ps_ret pe_non)))))), ?_⟩
  try dsimp only [cxOf]
  obtain ⟨web, nb, h⟩ := h
  refine Zm.body (js := [0, 1, 2, 3, 4, 5, 6, 7]) (m := p_facing_m web) nb h ?_
  refine zm_to (Γ2 := [(.val (dWeb T.A) web), .no, .no, .no, .no, .no, .no, .no]) rfl ?_
  delta p_facing_m
  refine zm_setO (i := 1) rfl (by decide) (oe_eq (oe_dict0 (d := dInt)) rfl) fun directions_1 => ?_
  refine zm_for [2, 3, 4, 5, 6] (fun s2 => [(.val (dWeb T.A) web), (.own (dDI (d := dInt)) (oDI (d := dInt)) none s2), .no, .no, .no, .no, .no, .no]) directions_1 (wlen 8 (by exact rfl) (by exact rfl) (by decide)) rfl (fun _ => (wlen 8 (by exact rfl) (by exact rfl) (by decide))) (ie_eq (ie_range (re_w (we_lenT (re_w (we_fld (isF_Web_ties T.A) T.c_Web T.n_Web_ties (we_var rfl)))))) rfl) (fun s2 x3 => (a_name rfl ⟨(wlen 8 (by exact rfl) (by exact rfl) (by decide)), ?_⟩)) fun s15 => ?_
  · refine zm_last ?_
    refine zm_ifP (te_eq (te_B (we_notinDI (re_w (we_var rfl)) (re_varO rfl))) rfl) ?_ ?_
    · refine zm_assoc ?_
      refine zm_dput (i := 1) rfl (by decide) (we_eq we_int rfl) (re_eq (re_w (we_var rfl)) rfl) fun directions_4 => ?_
      refine zm_assoc ?_
      refine zm_setO (i := 3) rfl (by decide) (oe_eq (oe_lstN (wle_cons (we_tup2 (we_var rfl) we_int) wle_nil) (asLenS asLen0) (by decide)) rfl) fun waiting_5 => ?_
      refine zm_while [4, 5, 6] (fun s6 => [(.val (dWeb T.A) web), (.own (dDI (d := dInt)) (oDI (d := dInt)) none s6.1), (.val dInt x3), (.own (dList (d := (dPair (d1 := dInt) (d2 := dInt)))) (oList (d := (dPair (d1 := dInt) (d2 := dInt)))) none s6.2), .no, .no, .no, .no]) (directions_4, waiting_5) rfl (fun _ => (wlen 8 (by exact rfl) (by exact rfl) (by decide))) (fun s6 => te_eq (te_truL (re_varO rfl)) rfl) (fun s6 => ?_) fun s14 => ?_
      · refine zm_pop (i := 3) (j := 4) rfl rfl rfl (by decide) (by decide) fun p7 => ?_
        refine zm_last ?_
        refine zm_for [5, 6] (fun s8 => [(.val (dWeb T.A) web), (.own (dDI (d := dInt)) (oDI (d := dInt)) none s8.1), (.val dInt x3), (.own (dList (d := (dPair (d1 := dInt) (d2 := dInt)))) (oList (d := (dPair (d1 := dInt) (d2 := dInt)))) none s8.2), (.val (dPair (d1 := dInt) (d2 := dInt)) p7.2), .no, .no, .no]) (s6.1, p7.1) (wlen 8 (by exact rfl) (by exact rfl) (by decide)) rfl (fun _ => (wlen 8 (by exact rfl) (by exact rfl) (by decide))) (ie_eq (ie_list (we_o (oe_call2 hs_p_steps_alike rfl (we_var rfl) (we_var rfl)))) rfl) (fun s8 x9 => (a_pair rfl (a_name rfl (a_name rfl ⟨(wlen 8 (by exact rfl) (by exact rfl) (by decide)), ?_⟩)))) fun s12 => ?_
        · refine zm_last ?_
          refine zm_ifP (te_eq (te_B (we_notinDI (re_w (we_var rfl)) (re_varO rfl))) rfl) ?_ ?_
          · refine zm_assoc ?_
            refine zm_dput (i := 1) rfl (by decide) (we_eq (we_var rfl) rfl) (re_eq (re_w (we_var rfl)) rfl) fun directions_10 => ?_
            refine zm_append (i := 3) rfl (by decide) (we_eq (we_tup2 (we_var rfl) (we_var rfl)) rfl) fun waiting_11 => ?_
            exact zm_nextL rfl
          · refine zm_skip ?_
            exact zm_nextL rfl
        · exact zm_nextL rfl
      · exact zm_nextL rfl
    · refine zm_skip ?_
      exact zm_nextL rfl
  · refine zm_set (i := 7) rfl (by decide) (we_eq (we_o (oe_lc (tg_name' (by decide)) (ic_range (re_w (we_lenT (re_w (we_fld (isF_Web_ties T.A) T.c_Web T.n_Web_ties (we_var rfl)))))) fun x16 => (a_name rfl ⟨te_yes, (we_r (re_dget (re_varO rfl) (re_w (we_var rfl))))⟩))) rfl) fun found_17 => ?_
    refine zm_if (te_eq (te_B (we_call2 hs_p_is_facing rfl (we_var rfl) (we_var rfl))) rfl) ?_ ?_
    · exact zm_ret (we_eq (we_some (we_var rfl)) rfl)
    · refine zm_skip ?_
      refine zm_last ?_
      exact zm_ret (we_eq (we_nonO (d := (dList (d := dInt)))) rfl)
end K13

namespace K13
open PySem L2 G PM
set_option maxHeartbeats 4000000 in
theorem ok_p_grouped {P : Program} {w : World} {K : PySem.W.Frag} {mg : Str → Option Value} {base : Heap} (T : Txt K mg) : FnOk P w K mg base (L2.CX P w) 1 T.a_p_grouped T.f_p_grouped ["points", "ties"] (sp_p_grouped ⟨P, w, K⟩ T.A) := by
  have nd := sc_p_grouped.nd
  refine T.F_p_grouped.okX sc_p_grouped (fun vs H Q E h => ?_) (fun cdv A outer s H vs Q E hr h => ?_)
  · exact sp_p_grouped_len h
  have hu := hu_of hr
  refine ⟨_, (pss_cons (ps_setDc (i := 3) (own := [("point", 2)]) (by rfl) nd rfl rfl (sw_trueD rfl rfl rfl (by decide +kernel)) (pi_qK K (pv 0)) (blkOk_by (own := [("point", 2)]) (N := N_p_grouped) (sc := defScope s_p_grouped) (by decide +kernel)) (fun _ _ _ _ _ => (pg_name (i := 2) nd rfl (Or.inl rfl))) (fun _ _ _ _ _ => pts_nil) (fun _ _ _ _ _ => (pv 2)) (fun _ _ _ _ _ => (pe_lst pa_nil)))
      (pss_cons (ps_for (passes_of rfl) rfl (pi_lK K (pv 1)) (pg_tupK (n := 2) K (by rfl) (pgs_cons (pg_name (i := 4) nd rfl (Or.inl rfl)) (pgs_cons (pg_name (i := 5) nd rfl (Or.inl rfl)) pgs_nil)))
        (pss_one (ps_if (PW.pt (pw_and (pt_cmp (pc_din hu (pv 4) (pv 3))) (pw_and1 (pt_cmp (pc_din hu (pv 5) (pv 3))))))
        (pss_cons (ps_expr (bm_K K PySem.F.plainAttrs_list PySem.F.slot_list_append PySem.F.type_list_append mt_append (pe_dget hu (pv 3) (pv 4) (fun _ _ => rfl)) (pa_cons (pv 5) pa_nil)))
      (pss_one (ps_expr (bm_K K PySem.F.plainAttrs_list PySem.F.slot_list_append PySem.F.type_list_append mt_append (pe_dget hu (pv 3) (pv 5) (fun _ _ => rfl)) (pa_cons (pv 4) pa_nil)))))
        pss_nil)))
      (pss_cons (ps_set (i := 6) nd rfl (Or.inl rfl) (pe_lst pa_nil))
      (pss_cons (ps_set (i := 7) nd rfl (Or.inl rfl) (pe_callTy0 (set0_w w) (by rfl) T.b_set (by decide +kernel)))
      (pss_cons (ps_for (passes_of rfl) rfl (pi_lK K (pe_callB (sortedI_K K) (by rfl) T.b_sorted (by decide +kernel) (pa_cons (pv 0) pa_nil))) (pg_name (i := 2) nd rfl (Or.inl rfl))
        (pss_one (ps_if (pt_cmpR (snotin_w w) (pv 2) (pv 7) (by with_unfolding_all rfl))
        (pss_cons (ps_expr (sadd_w w (pv 7) (pa_cons (pv 2) pa_nil)))
      (pss_cons (ps_set (i := 8) nd rfl (Or.inl rfl) (pe_lst pa_nil))
      (pss_cons (ps_set (i := 9) nd rfl (Or.inl rfl) (pe_lst (pa_cons (pv 2) pa_nil)))
      (pss_cons (ps_while (passes_of rfl) (truth_K K (pv 9) (by intro _; rfl))
        (pss_cons (ps_set (i := 10) nd rfl (Or.inl rfl) (bm0_K K PySem.F.plainAttrs_list PySem.F.slot_list_pop PySem.F.type_list_pop mt_pop (pv 9)))
      (pss_cons (ps_expr (bm_K K PySem.F.plainAttrs_list PySem.F.slot_list_append PySem.F.type_list_append mt_append (pv 8) (pa_cons (pv 10) pa_nil)))
      (pss_one (ps_for (passes_of rfl) rfl (pi_lK K (pe_dget hu (pv 3) (pv 10) (fun _ _ => rfl))) (pg_name (i := 5) nd rfl (Or.inl rfl))
        (pss_one (ps_if (pt_cmpR (snotin_w w) (pv 5) (pv 7) (by with_unfolding_all rfl))
        (pss_cons (ps_expr (sadd_w w (pv 7) (pa_cons (pv 5) pa_nil)))
      (pss_one (ps_expr (bm_K K PySem.F.plainAttrs_list PySem.F.slot_list_append PySem.F.type_list_append mt_append (pv 9) (pa_cons (pv 5) pa_nil)))))
        pss_nil)))))))
      (pss_one (ps_expr (bm_K K PySem.F.plainAttrs_list PySem.F.slot_list_append PySem.F.type_list_append mt_append (pv 6) (pa_cons (pe_callB (sortedI_K K) (by rfl) T.b_sorted (by decide +kernel) (pa_cons (pv 8) pa_nil)) pa_nil))))))))
        pss_nil)))
      (pss_one (ps_ret (pv 6)))))))), ?_⟩
  try dsimp only [cxOf]
  obtain ⟨points, ties, nb, h⟩ := h
  refine Zm.body (js := [0, 1, 2, 3, 4, 5, 6, 7, 8, 9, 10]) (m := p_grouped_m points ties) nb h ?_
  refine zm_to (Γ2 := [(.val (dList (d := dInt)) points), (.val (dList (d := (dPair (d1 := dInt) (d2 := dInt)))) ties), .no, .no, .no, .no, .no, .no, .no, .no, .no]) rfl ?_
  delta p_grouped_m
  refine zm_setO (i := 3) rfl (by decide) (oe_eq (oe_dc (tg_name' (by decide)) (we_sqL (we_var rfl)) fun x1 => (a_name rfl ⟨te_yes, (we_var rfl), (oe_lst0 (d := dInt))⟩)) rfl) fun near_2 => ?_
  refine zm_for [4, 5] (fun s3 => [(.val (dList (d := dInt)) points), (.val (dList (d := (dPair (d1 := dInt) (d2 := dInt)))) ties), .no, (.own (dDI (d := (dList (d := dInt)))) (oDeepDI (oList (d := dInt))) none s3), .no, .no, .no, .no, .no, .no, .no]) near_2 (wlen 11 (by exact rfl) (by exact rfl) (by decide)) rfl (fun _ => (wlen 11 (by exact rfl) (by exact rfl) (by decide))) (ie_eq (ie_list (we_var rfl)) rfl) (fun s3 x4 => (a_pair rfl (a_name rfl (a_name rfl ⟨(wlen 11 (by exact rfl) (by exact rfl) (by decide)), ?_⟩)))) fun s7 => ?_
  · refine zm_last ?_
    refine zm_ifP (te_eq (te_andP (te_B (we_inDI (re_w (we_var rfl)) (re_varO rfl))) (te_B (we_inDI (re_w (we_var rfl)) (re_varO rfl)))) rfl) ?_ ?_
    · refine zm_assoc ?_
      refine zm_appDI (i := 3) rfl (by decide) (re_eq (re_w (we_var rfl)) rfl) (we_eq (we_var rfl) rfl) fun near_5 => ?_
      refine zm_appDI (i := 3) rfl (by decide) (re_eq (re_w (we_var rfl)) rfl) (we_eq (we_var rfl) rfl) fun near_6 => ?_
      exact zm_nextL rfl
    · refine zm_skip ?_
      exact zm_nextL rfl
  · refine zm_setO (i := 6) rfl (by decide) (oe_eq (oe_nilDeep (od := (oList (d := dInt)))) rfl) fun groups_8 => ?_
    refine zm_setO (i := 7) rfl (by decide) (oe_eq oe_set0 rfl) fun seen_9 => ?_
    refine zm_frz 3 rfl (by decide) ?_
    refine zm_for [2, 5, 8, 9, 10] (fun s10 => [(.val (dList (d := dInt)) points), (.val (dList (d := (dPair (d1 := dInt) (d2 := dInt)))) ties), .no, (.val (dDI (d := (dList (d := dInt)))) s7), .no, .no, (.own (dList (d := (dList (d := dInt)))) (oDeep (oList (d := dInt))) none s10.1), (.own dSet oSet none s10.2), .no, .no, .no]) (groups_8, seen_9) (wlen 11 (by exact rfl) (by exact rfl) (by decide)) rfl (fun _ => (wlen 11 (by exact rfl) (by exact rfl) (by decide))) (ie_eq (ie_list (we_o (oe_sorted (re_w (we_var rfl))))) rfl) (fun s10 x19 => (a_name rfl ⟨(wlen 11 (by exact rfl) (by exact rfl) (by decide)), ?_⟩)) fun s34 => ?_
    · refine zm_last ?_
      refine zm_ifP (te_eq (te_test (we_notinS (re_w (we_var rfl)) (re_varO rfl))) rfl) ?_ ?_
      · refine zm_assoc ?_
        refine zm_sadd (i := 7) rfl (by decide) (re_eq (re_w (we_var rfl)) rfl) fun seen_20 => ?_
        refine zm_assoc ?_
        refine zm_setO (i := 8) rfl (by decide) (oe_eq (oe_lst0 (d := dInt)) rfl) fun group_21 => ?_
        refine zm_assoc ?_
        refine zm_setO (i := 9) rfl (by decide) (oe_eq (oe_lstN (wle_cons (we_var rfl) wle_nil) (asLenS asLen0) (by decide)) rfl) fun waiting_22 => ?_
        refine zm_assoc ?_
        refine zm_while [5, 10] (fun s23 => [(.val (dList (d := dInt)) points), (.val (dList (d := (dPair (d1 := dInt) (d2 := dInt)))) ties), (.val dInt x19), (.val (dDI (d := (dList (d := dInt)))) s7), .no, .no, (.own (dList (d := (dList (d := dInt)))) (oDeep (oList (d := dInt))) none s10.1), (.own dSet oSet none s23.1), (.own (dList (d := dInt)) (oList (d := dInt)) none s23.2.1), (.own (dList (d := dInt)) (oList (d := dInt)) none s23.2.2), .no]) (seen_20, group_21, waiting_22) rfl (fun _ => (wlen 11 (by exact rfl) (by exact rfl) (by decide))) (fun s23 => te_eq (te_truL (re_varO rfl)) rfl) (fun s23 => ?_) fun s32 => ?_
        · refine zm_pop (i := 9) (j := 10) rfl rfl rfl (by decide) (by decide) fun p24 => ?_
          refine zm_append (i := 8) rfl (by decide) (we_eq (we_var rfl) rfl) fun group_25 => ?_
          refine zm_last ?_
          refine zm_for [5] (fun s26 => [(.val (dList (d := dInt)) points), (.val (dList (d := (dPair (d1 := dInt) (d2 := dInt)))) ties), (.val dInt x19), (.val (dDI (d := (dList (d := dInt)))) s7), .no, .no, (.own (dList (d := (dList (d := dInt)))) (oDeep (oList (d := dInt))) none s10.1), (.own dSet oSet none s26.1), (.own (dList (d := dInt)) (oList (d := dInt)) none group_25), (.own (dList (d := dInt)) (oList (d := dInt)) none s26.2), (.val dInt p24.2)]) (s23.1, p24.1) (wlen 11 (by exact rfl) (by exact rfl) (by decide)) rfl (fun _ => (wlen 11 (by exact rfl) (by exact rfl) (by decide))) (ie_eq (ie_list (we_dget (we_var rfl) (re_w (we_var rfl)))) rfl) (fun s26 x27 => (a_name rfl ⟨(wlen 11 (by exact rfl) (by exact rfl) (by decide)), ?_⟩)) fun s30 => ?_
          · refine zm_last ?_
            refine zm_ifP (te_eq (te_test (we_notinS (re_w (we_var rfl)) (re_varO rfl))) rfl) ?_ ?_
            · refine zm_assoc ?_
              refine zm_sadd (i := 7) rfl (by decide) (re_eq (re_w (we_var rfl)) rfl) fun seen_28 => ?_
              refine zm_append (i := 9) rfl (by decide) (we_eq (we_var rfl) rfl) fun waiting_29 => ?_
              exact zm_nextL rfl
            · refine zm_skip ?_
              exact zm_nextL rfl
          · exact zm_nextL rfl
        · refine zm_pushO (i := 6) rfl (by decide) (oe_eq (oe_sorted (re_varO rfl)) rfl) fun groups_33 => ?_
          exact zm_nextL rfl
      · refine zm_skip ?_
        exact zm_nextL rfl
    · refine zm_last ?_
      exact zm_retV rfl
end K13

namespace K13
open PySem L2 G PM
set_option maxHeartbeats 4000000 in
theorem ok_p_tie_groups {P : Program} {w : World} {K : PySem.W.Frag} {mg : Str → Option Value} {base : Heap} (T : Txt K mg) (G_p_every_step : FnOk P w K mg base (L2.CX P w) 1 T.a_p_every_step T.f_p_every_step ["web"] (sp_p_every_step ⟨P, w, K⟩ T.A)) (G_p_followers : FnOk P w K mg base (L2.CX P w) 5 T.a_p_followers T.f_p_followers ["web", "step"] (sp_p_followers ⟨P, w, K⟩ T.A)) (G_p_grouped : FnOk P w K mg base (L2.CX P w) 1 T.a_p_grouped T.f_p_grouped ["points", "ties"] (sp_p_grouped ⟨P, w, K⟩ T.A)) : FnOk P w K mg base (L2.CX P w) 6 T.a_p_tie_groups T.f_p_tie_groups ["web"] (sp_p_tie_groups ⟨P, w, K⟩ T.A) := by
  have nd := sc_p_tie_groups.nd
  refine T.F_p_tie_groups.okX sc_p_tie_groups (fun vs H Q E h => ?_) (fun cdv A outer s H vs Q E hr h => ?_)
  · exact sp_p_tie_groups_len h
  have hu := hu_of hr
  refine ⟨_, (pss_cons (ps_setLc2 (i := 1) (own := [("step", 2), ("after", 3)]) (vs1 := [3]) (by rfl) nd rfl rfl (sw_true rfl rfl rfl (by decide +kernel)) (pi_lB K (pe_callS G_p_every_step (hr.mono (by decide)) (by rfl) T.g_p_every_step T.F_p_every_step.kp T.d_p_every_step (fun σ => passAt (takes_of rfl rfl rfl rfl) σ) (pa_cons (pv 0) pa_nil))) (blkOk_by (own := [("step", 2), ("after", 3)]) (N := N_p_tie_groups) (sc := defScope s_p_tie_groups) (by decide +kernel)) (by decide) (fun _ _ _ _ _ => (pg_name (i := 2) nd rfl (Or.inl rfl))) (fun _ _ _ _ _ => pts_nil) (fun _ _ _ _ _ => (pi_lB K (pe_callS G_p_followers (hr.mono (by decide)) (by rfl) T.g_p_followers T.F_p_followers.kp T.d_p_followers (fun σ => passFS σ) (pa_cons (pv 0) (pa_cons (pv 2) pa_nil))))) (fun _ _ _ _ _ => (pg_name (i := 3) nd rfl (Or.inl rfl))) (fun _ _ _ _ _ => pts_nil) (fun _ _ _ _ _ => (pe_tup (pa_cons (pe_ix (ix_tK K) (pv 2) pe_int (fun _ _ => rfl)) (pa_cons (pe_ix (ix_tK K) (pv 3) pe_int (fun _ _ => rfl)) pa_nil)))) )
      (pss_one (ps_ret (pe_callS G_p_grouped (hr.mono (by decide)) (by rfl) T.g_p_grouped T.F_p_grouped.kp T.d_p_grouped (fun σ => passAt (takes_of rfl rfl rfl rfl) σ) (pa_cons (pe_listRg rfl (by rfl) T.b_list (prg_1 (by rfl) T.b_range (pe_callB (len_K K) (by rfl) T.b_len (by decide +kernel) (pa_cons (fld_K K (pv 0) rfl) pa_nil)))) (pa_cons (pv 1) pa_nil)))))), ?_⟩
  try dsimp only [cxOf]
  obtain ⟨web, nb, h⟩ := h
  refine Zm.body (js := [0, 1, 2, 3]) (m := p_tie_groups_m web) nb h ?_
  refine zm_to (Γ2 := [(.val (dWeb T.A) web), .no, .no, .no]) rfl ?_
  delta p_tie_groups_m
  refine zm_set (i := 1) rfl (by decide) (we_eq (we_o (oe_lc2 (tg_name' (by decide)) (tg_name' (by decide)) (iw_list (we_o (oe_call1 hs_p_every_step rfl (we_var rfl)))) fun x1 => (a_name rfl ⟨te_yes, (iw_list (we_o (oe_call2 hs_p_followers rfl (we_var rfl) (we_var rfl)))), fun x2 => (a_name rfl ⟨te_yes, (we_tup2 (we_fst (we_var rfl)) (we_fst (we_var rfl)))⟩)⟩))) rfl) fun joined_3 => ?_
  refine zm_last ?_
  exact zm_retO (oe_eq (oe_call2 hs_p_grouped rfl (we_o (oe_listRg1 (re_w (we_lenT (re_w (we_fld (isF_Web_ties T.A) T.c_Web T.n_Web_ties (we_var rfl))))))) (we_var rfl)) rfl)
end K13

namespace K13
open PySem L2 G PM
set_option maxHeartbeats 4000000 in
theorem ok_p_count_facings {P : Program} {w : World} {K : PySem.W.Frag} {mg : Str → Option Value} {base : Heap} (T : Txt K mg) (G_p_facing : FnOk P w K mg base (L2.CX P w) 7 T.a_p_facing T.f_p_facing ["web"] (sp_p_facing ⟨P, w, K⟩ T.A)) (G_p_tie_groups : FnOk P w K mg base (L2.CX P w) 6 T.a_p_tie_groups T.f_p_tie_groups ["web"] (sp_p_tie_groups ⟨P, w, K⟩ T.A)) : FnOk P w K mg base (L2.CX P w) 8 T.a_p_count_facings T.f_p_count_facings ["web"] (sp_p_count_facings ⟨P, w, K⟩ T.A) := by
  have nd := sc_p_count_facings.nd
  refine T.F_p_count_facings.okX sc_p_count_facings (fun vs H Q E h => ?_) (fun cdv A outer s H vs Q E hr h => ?_)
  · exact sp_p_count_facings_len h
  have hu := hu_of hr
  refine ⟨_, (pss_cons (ps_if (pt_cmpR op_isN (pe_callS G_p_facing (hr.mono (by decide)) (by rfl) T.g_p_facing T.F_p_facing.kp T.d_p_facing (fun σ => passAt (takes_of rfl rfl rfl rfl) σ) (pa_cons (pv 0) pa_nil)) pe_non (nomark _))
        (pss_one (ps_ret pe_int))
        pss_nil)
      (pss_cons (ps_set (i := 1) nd rfl (Or.inl rfl) pe_int)
      (pss_cons (ps_for (passes_of rfl) rfl (pi_lK K (pe_callS G_p_tie_groups (hr.mono (by decide)) (by rfl) T.g_p_tie_groups T.F_p_tie_groups.kp T.d_p_tie_groups (fun σ => passAt (takes_of rfl rfl rfl rfl) σ) (pa_cons (pv 0) pa_nil))) (pg_name (i := 2) nd rfl (Or.inl rfl))
        (pss_one (ps_set (i := 1) nd rfl (Or.inl rfl) (pe_op op_mul pe_int (pv 1)))))
      (pss_one (ps_ret (pv 1)))))), ?_⟩
  try dsimp only [cxOf]
  obtain ⟨web, nb, h⟩ := h
  refine Zm.body (js := [0, 1, 2]) (m := p_count_facings_m web) nb h ?_
  refine zm_to (Γ2 := [(.val (dWeb T.A) web), .no, .no]) rfl ?_
  delta p_count_facings_m
  refine zm_if (te_eq (te_test (we_isN (re_w (we_call1 hs_p_facing rfl (we_var rfl))))) rfl) ?_ ?_
  · exact zm_ret (we_eq we_int rfl)
  · refine zm_skip ?_
    refine zm_set (i := 1) rfl (by decide) (we_eq we_int rfl) fun count_2 => ?_
    refine zm_for [2] (fun s3 => [(.val (dWeb T.A) web), (.val dInt s3), .no]) count_2 (wlen 3 (by exact rfl) (by exact rfl) (by decide)) rfl (fun _ => (wlen 3 (by exact rfl) (by exact rfl) (by decide))) (ie_eq (ie_list (we_o (oe_call1 hs_p_tie_groups rfl (we_var rfl)))) rfl) (fun s3 x4 => (a_name rfl ⟨(wlen 3 (by exact rfl) (by exact rfl) (by decide)), ?_⟩)) fun s6 => ?_
    · refine zm_last ?_
      refine zm_set (i := 1) rfl (by decide) (we_eq (we_mulCl (re_w we_int) (re_w (we_var rfl))) rfl) fun count_5 => ?_
      exact zm_nextL rfl
    · refine zm_last ?_
      exact zm_ret (we_eq (we_var rfl) rfl)
end K13

namespace K13
open PySem L2 G PM
set_option maxHeartbeats 4000000 in
theorem ok_l_right_groups {P : Program} {w : World} {K : PySem.W.Frag} {mg : Str → Option Value} {base : Heap} (T : Txt K mg) (G_p_tie_groups : FnOk P w K mg base (L2.CX P w) 6 T.a_p_tie_groups T.f_p_tie_groups ["web"] (sp_p_tie_groups ⟨P, w, K⟩ T.A)) (G_l_same : ∀ n : Nat, FnOk P w K mg base (L2.CX P w) (n + 1) T.a_l_same T.f_l_same ["_law_told", "_law_due"] (sp_l_same n ⟨P, w, K⟩ T.A)) : FnOk P w K mg base (L2.CX P w) 11 T.a_l_right_groups T.f_l_right_groups ["_law_web_here", "_law_label", "_law_many"] (sp_l_right_groups ⟨P, w, K⟩ T.A) := by
  have nd := sc_l_right_groups.nd
  refine T.F_l_right_groups.okX sc_l_right_groups (fun vs H Q E h => ?_) (fun cdv A outer s H vs Q E hr h => ?_)
  · exact sp_l_right_groups_len h
  have hu := hu_of hr
  refine ⟨_, (pss_cons (ps_set (i := 3) nd rfl (Or.inl rfl) (pe_lst pa_nil))
      (pss_cons (ps_for (passes_of rfl) rfl (pi_range1 (by rfl) T.b_range (pa_cons (pv 2) pa_nil)) (pg_name (i := 4) nd rfl (Or.inr rfl))
        (pss_one (ps_if (pt_cmpR op_eq (pe_ix (ix_lK K) (pv 1) (pv 4) (fun _ _ => rfl)) (pv 4) (nomark _))
        (pss_one (ps_expr (bm_K K PySem.F.plainAttrs_list PySem.F.slot_list_append PySem.F.type_list_append mt_append (pv 3) (pa_cons (pe_lc (own := [("_law_tie", 7)]) (by rfl) nd (pi_range1 (by rfl) T.b_range (pa_cons (pv 2) pa_nil)) (blkOk_by (own := [("_law_tie", 7)]) (N := N_l_right_groups) (sc := defScope s_l_right_groups) (by decide +kernel)) (fun _ _ _ _ _ => (pg_name (i := 7) nd rfl (Or.inl rfl))) (fun _ _ _ _ _ => (pts_one (pt_cmpR op_eq (pe_ix (ix_lK K) (pv 1) (pv 7) (fun _ _ => rfl)) (pv 4) (nomark _)))) (fun _ _ _ _ _ => (pv 7))) pa_nil))))
        pss_nil)))
      (pss_cons (ps_set (i := 5) nd rfl (Or.inl rfl) (pe_callS G_p_tie_groups (hr.mono (by decide)) (by rfl) T.g_p_tie_groups T.F_p_tie_groups.kp T.d_p_tie_groups (fun σ => passAt (takes_of rfl rfl rfl rfl) σ) (pa_cons (pv 0) pa_nil)))
      (pss_cons (ps_if (pt_not (pt_val (pe_callS (G_l_same 9) (hr.mono (by decide)) (by rfl) T.g_l_same T.F_l_same.kp T.d_l_same (fun σ => passFS σ) (pa_cons (pv 5) (pa_cons (pv 3) pa_nil)))))
        (pss_one (ps_ret pe_bl))
        pss_nil)
      (pss_cons (ps_for (passes_of rfl) rfl (pi_lK K (pv 5)) (pg_name (i := 6) nd rfl (Or.inl rfl))
        (pss_one (ps_expr (bm_K K PySem.F.plainAttrs_list PySem.F.slot_list_append PySem.F.type_list_append mt_append (pv 6) (pa_cons (pe_un un_neg pe_int) pa_nil)))))
      (pss_cons (ps_expr (bm_K K PySem.F.plainAttrs_list PySem.F.slot_list_append PySem.F.type_list_append mt_append (pv 5) (pa_cons (pe_lst pa_nil) pa_nil)))
      (pss_one (ps_ret (pe_callS (G_l_same 9) (hr.mono (by decide)) (by rfl) T.g_l_same T.F_l_same.kp T.d_l_same (fun σ => passAt (takes_of rfl rfl rfl rfl) σ) (pa_cons (pe_callS G_p_tie_groups (hr.mono (by decide)) (by rfl) T.g_p_tie_groups T.F_p_tie_groups.kp T.d_p_tie_groups (fun σ => passAt (takes_of rfl rfl rfl rfl) σ) (pa_cons (pv 0) pa_nil)) (pa_cons (pv 3) pa_nil))))))))))), ?_⟩
  try dsimp only [cxOf]
  obtain ⟨web_here, label, many, nb, h⟩ := h
  refine Zm.body (js := [0, 1, 2, 3, 4, 5, 6, 7]) (m := l_right_groups_m web_here label many) nb h ?_
  refine zm_to (Γ2 := [(.val (dWeb T.A) web_here), (.val (dList (d := dInt)) label), (.val dInt many), .no, .no, .no, .no, .no]) rfl ?_
  delta l_right_groups_m
  refine zm_setO (i := 3) rfl (by decide) (oe_eq (oe_lst0 (d := (dList (d := dInt)))) rfl) fun due_1 => ?_
  refine zm_for [4] (fun s2 => [(.val (dWeb T.A) web_here), (.val (dList (d := dInt)) label), (.val dInt many), (.own (dList (d := (dList (d := dInt)))) (oList (d := (dList (d := dInt)))) none s2), .no, .no, .no, .no]) due_1 (wlen 8 (by exact rfl) (by exact rfl) (by decide)) rfl (fun _ => (wlen 8 (by exact rfl) (by exact rfl) (by decide))) (ie_eq (ie_range (re_w (we_var rfl))) rfl) (fun s2 x3 => (a_name rfl ⟨(wlen 8 (by exact rfl) (by exact rfl) (by decide)), ?_⟩)) fun s9 => ?_
  · refine zm_last ?_
    refine zm_if (te_eq (te_test (we_eqS (re_w (we_ix (we_var rfl) (re_w (we_var rfl)))) (re_w (we_var rfl)))) rfl) ?_ ?_
    · refine zm_append (i := 3) rfl (by decide) (we_eq (we_o (oe_lc (tg_name' (by decide)) (ic_range (re_w (we_var rfl))) fun x5 => (a_name rfl ⟨(te_test (we_eqS (re_w (we_ix (we_var rfl) (re_w (we_var rfl)))) (re_w (we_var rfl)))), (we_var rfl)⟩))) rfl) fun due_7 => ?_
      exact zm_nextL rfl
    · refine zm_skip ?_
      exact zm_nextL rfl
  · refine zm_setO (i := 5) rfl (by decide) (oe_eq (oe_call1 hs_p_tie_groups rfl (we_var rfl)) rfl) fun told_10 => ?_
    refine zm_frz 3 rfl (by decide) ?_
    refine zm_if (te_eq (te_not (te_B (we_borrow 5 rfl (we_call2 hs_l_same rfl (we_U (we_var rfl)) (we_U (we_var rfl)))))) rfl) ?_ ?_
    · exact zm_ret (we_eq we_bl rfl)
    · refine zm_skip ?_
      refine zm_forApp (i := 5) (j := 6) (fun _ _ _ q => ⟨_, rfl, q⟩) (by decide) rfl rfl (by decide) (by decide) fun _law_told12 => ?_
      refine zm_pushO (i := 5) rfl (by decide) (oe_eq (oe_lst0 (d := dInt)) rfl) fun told_13 => ?_
      refine zm_last ?_
      exact zm_ret (we_eq (we_call2 hs_l_same rfl (we_U (we_o (oe_call1 hs_p_tie_groups rfl (we_var rfl)))) (we_U (we_var rfl))) rfl)
end K13

namespace K13
open PySem L2 G PM
set_option maxHeartbeats 4000000 in
theorem ok_l_right_web {P : Program} {w : World} {K : PySem.W.Frag} {mg : Str → Option Value} {base : Heap} (T : Txt K mg) (G_l_table : FnOk P w K mg base (L2.CX P w) 1 T.a_l_table T.f_l_table ["_law_ties"] (sp_l_table ⟨P, w, K⟩ T.A)) (G_l_labels : FnOk P w K mg base (L2.CX P w) 1 T.a_l_labels T.f_l_labels ["_law_table_here", "_law_many"] (sp_l_labels ⟨P, w, K⟩ T.A)) (G_l_forced : FnOk P w K mg base (L2.CX P w) 2 T.a_l_forced T.f_l_forced ["_law_table_here", "_law_many"] (sp_l_forced ⟨P, w, K⟩ T.A)) (G_l_lists : FnOk P w K mg base (L2.CX P w) 2 T.a_l_lists T.f_l_lists ["_law_draws_here", "_law_at", "_law_many", "_law_forced_here", "_law_label"] (sp_l_lists ⟨P, w, K⟩ T.A)) (G_l_keeps : FnOk P w K mg base (L2.CX P w) 1 T.a_l_keeps T.f_l_keeps ["_law_table_here", "_law_many", "_law_directions"] (sp_l_keeps ⟨P, w, K⟩ T.A)) (G_p_is_facing : FnOk P w K mg base (L2.CX P w) 6 T.a_p_is_facing T.f_p_is_facing ["web", "directions"] (sp_p_is_facing ⟨P, w, K⟩ T.A)) (G_l_same : ∀ n : Nat, FnOk P w K mg base (L2.CX P w) (n + 1) T.a_l_same T.f_l_same ["_law_told", "_law_due"] (sp_l_same n ⟨P, w, K⟩ T.A)) (G_p_is_facing_v2 : FnOk P w K mg base (L2.CX P w) 6 T.a_p_is_facing T.f_p_is_facing ["web", "directions"] (sp_p_is_facing_v2 ⟨P, w, K⟩ T.A)) (G_p_count_facings : FnOk P w K mg base (L2.CX P w) 8 T.a_p_count_facings T.f_p_count_facings ["web"] (sp_p_count_facings ⟨P, w, K⟩ T.A)) (G_l_right_groups : FnOk P w K mg base (L2.CX P w) 11 T.a_l_right_groups T.f_l_right_groups ["_law_web_here", "_law_label", "_law_many"] (sp_l_right_groups ⟨P, w, K⟩ T.A)) : FnOk P w K mg base (L2.CX P w) 12 T.a_l_right_web T.f_l_right_web ["_law_web_here", "_law_ties", "_law_draws_here", "_law_at"] (sp_l_right_web ⟨P, w, K⟩ T.A) := by
  have nd := sc_l_right_web.nd
  refine T.F_l_right_web.okX sc_l_right_web (fun vs H Q E h => ?_) (fun cdv A outer s H vs Q E hr h => ?_)
  · exact sp_l_right_web_len h
  have hu := hu_of hr
  refine ⟨_, (pss_cons (ps_set (i := 4) nd rfl (Or.inl rfl) (pe_callB (len_K K) (by rfl) T.b_len (by decide +kernel) (pa_cons (pv 1) pa_nil)))
      (pss_cons (ps_set (i := 5) nd rfl (Or.inl rfl) (pe_callS G_l_table (hr.mono (by decide)) (by rfl) T.g_l_table T.F_l_table.kp T.d_l_table (fun σ => passAt (takes_of rfl rfl rfl rfl) σ) (pa_cons (pv 1) pa_nil)))
      (pss_cons (ps_set (i := 6) nd rfl (Or.inl rfl) (pe_callS G_l_labels (hr.mono (by decide)) (by rfl) T.g_l_labels T.F_l_labels.kp T.d_l_labels (fun σ => passAt (takes_of rfl rfl rfl rfl) σ) (pa_cons (pv 5) (pa_cons (pv 4) pa_nil))))
      (pss_cons (ps_set (i := 7) nd rfl (Or.inl rfl) (pe_callS G_l_forced (hr.mono (by decide)) (by rfl) T.g_l_forced T.F_l_forced.kp T.d_l_forced (fun σ => passAt (takes_of rfl rfl rfl rfl) σ) (pa_cons (pv 5) (pa_cons (pv 4) pa_nil))))
      (pss_cons (ps_set (i := 8) nd rfl (Or.inl rfl) (pe_callS G_l_lists (hr.mono (by decide)) (by rfl) T.g_l_lists T.F_l_lists.kp T.d_l_lists (fun σ => passAt (takes_of rfl rfl rfl rfl) σ) (pa_cons (pv 2) (pa_cons (pv 3) (pa_cons (pv 4) (pa_cons (pv 7) (pa_cons (pv 6) pa_nil)))))))
      (pss_cons (ps_set (i := 9) nd rfl (Or.inl rfl) pe_int)
      (pss_cons (ps_for (passes_of rfl) rfl (pi_lK K (pv 8)) (pg_name (i := 10) nd rfl (Or.inl rfl))
        (pss_cons (ps_set (i := 11) nd rfl (Or.inl rfl) (pe_callS G_l_keeps (hr.mono (by decide)) (by rfl) T.g_l_keeps T.F_l_keeps.kp T.d_l_keeps (fun σ => passAt (takes_of rfl rfl rfl rfl) σ) (pa_cons (pv 5) (pa_cons (pv 4) (pa_cons (pv 10) pa_nil)))))
      (pss_cons (ps_set (i := 12) nd rfl (Or.inl rfl) (pe_callTy (list_K K) (by rfl) T.b_list (by decide +kernel) (pa_cons (pv 10) pa_nil)))
      (pss_cons (ps_if (PW.pt (pw_or (pt_not (pt_val (pe_callS (G_l_same 9) (hr.mono (by decide)) (by rfl) T.g_l_same T.F_l_same.kp T.d_l_same (fun σ => passAt (takes_of rfl rfl rfl rfl) σ) (pa_cons (pe_callS G_p_is_facing (hr.mono (by decide)) (by rfl) T.g_p_is_facing T.F_p_is_facing.kp T.d_p_is_facing (fun σ => passAt (takes_of rfl rfl rfl rfl) σ) (pa_cons (pv 0) (pa_cons (pv 12) pa_nil))) (pa_cons (pv 11) pa_nil))))) (pw_or1 (pt_cmpR (op_neDK K (hu64 hr)) (pv 12) (pv 10) (nomark _)))))
        (pss_one (ps_ret pe_bl))
        pss_nil)
      (pss_one (ps_if (pt_val (pv 11))
        (pss_one (ps_set (i := 9) nd rfl (Or.inl rfl) (pe_op op_add (pv 9) pe_int)))
        pss_nil))))))
      (pss_cons (ps_if (pt_not (pt_val (pe_callS (G_l_same 9) (hr.mono (by decide)) (by rfl) T.g_l_same T.F_l_same.kp T.d_l_same (fun σ => passAt (takes_of rfl rfl rfl rfl) σ) (pa_cons (pe_callS G_p_is_facing_v2 (hr.mono (by decide)) (by rfl) T.g_p_is_facing T.F_p_is_facing.kp T.d_p_is_facing (fun σ => passAt (takes_of rfl rfl rfl rfl) σ) (pa_cons (pv 0) (pa_cons (pe_callTy (tuple_K K) (by rfl) T.b_tuple (by decide +kernel) (pa_cons (pv 7) pa_nil)) pa_nil))) (pa_cons (pe_callS G_l_keeps (hr.mono (by decide)) (by rfl) T.g_l_keeps T.F_l_keeps.kp T.d_l_keeps (fun σ => passAt (takes_of rfl rfl rfl rfl) σ) (pa_cons (pv 5) (pa_cons (pv 4) (pa_cons (pv 7) pa_nil)))) pa_nil)))))
        (pss_one (ps_ret pe_bl))
        pss_nil)
      (pss_cons (ps_if (pt_cmpR op_gt (pv 4) pe_int (nomark _))
        (pss_cons (ps_set (i := 9) nd rfl (Or.inl rfl) (pe_callTy call_int1 (by rfl) T.b_int (by decide +kernel) (pa_cons (pe_callS G_l_keeps (hr.mono (by decide)) (by rfl) T.g_l_keeps T.F_l_keeps.kp T.d_l_keeps (fun σ => passAt (takes_of rfl rfl rfl rfl) σ) (pa_cons (pv 5) (pa_cons (pv 4) (pa_cons (pv 7) pa_nil)))) pa_nil)))
      (pss_one (ps_for (passes_of rfl) rfl (pi_range1 (by rfl) T.b_range (pa_cons (pv 4) pa_nil)) (pg_name (i := 13) nd rfl (Or.inl rfl))
        (pss_one (ps_if (pt_cmpR op_eq (pe_ix (ix_lK K) (pv 6) (pv 13) (fun _ _ => rfl)) (pv 13) (nomark _))
        (pss_one (ps_set (i := 9) nd rfl (Or.inl rfl) (pe_op op_mul pe_int (pv 9))))
        pss_nil)))))
        pss_nil)
      (pss_cons (ps_if (pt_cmpR op_eq (pv 4) pe_int (nomark _))
        (pss_one (ps_set (i := 9) nd rfl (Or.inl rfl) pe_int))
        pss_nil)
      (pss_one (ps_ret (pe_and (pe_callS (G_l_same 9) (hr.mono (by decide)) (by rfl) T.g_l_same T.F_l_same.kp T.d_l_same (fun σ => passAt (takes_of rfl rfl rfl rfl) σ) (pa_cons (pe_callS G_p_count_facings (hr.mono (by decide)) (by rfl) T.g_p_count_facings T.F_p_count_facings.kp T.d_p_count_facings (fun σ => passAt (takes_of rfl rfl rfl rfl) σ) (pa_cons (pv 0) pa_nil)) (pa_cons (pv 9) pa_nil))) (pe_one (pe_callS G_l_right_groups (hr.mono (by decide)) (by rfl) T.g_l_right_groups T.F_l_right_groups.kp T.d_l_right_groups (fun σ => passAt (takes_of rfl rfl rfl rfl) σ) (pa_cons (pv 0) (pa_cons (pv 6) (pa_cons (pv 4) pa_nil)))))))))))))))))), ?_⟩
  try dsimp only [cxOf]
  obtain ⟨web_here, ties, draws_here, at_, nb, h⟩ := h
  refine Zm.body (js := [0, 1, 2, 3, 4, 5, 6, 7, 8, 9, 10, 11, 12, 13]) (m := l_right_web_m web_here ties draws_here at_) nb h ?_
  refine zm_to (Γ2 := [(.val (dWeb T.A) web_here), (.val (dList (d := (dT4 (d1 := dInt) (d2 := dInt) (d3 := dInt) (d4 := dInt)))) ties), (.val (dList (d := dInt)) draws_here), (.val dInt at_), .no, .no, .no, .no, .no, .no, .no, .no, .no, .no]) rfl ?_
  delta l_right_web_m
  refine zm_set (i := 4) rfl (by decide) (we_eq (we_len (re_w (we_var rfl))) rfl) fun many_1 => ?_
  refine zm_set (i := 5) rfl (by decide) (we_eq (we_call1 hs_l_table rfl (we_var rfl)) rfl) fun table_here_2 => ?_
  refine zm_set (i := 6) rfl (by decide) (we_eq (we_o (oe_call2 hs_l_labels rfl (we_var rfl) (we_var rfl))) rfl) fun label_3 => ?_
  refine zm_set (i := 7) rfl (by decide) (we_eq (we_o (oe_call2 hs_l_forced rfl (we_var rfl) (we_var rfl))) rfl) fun forced_here_4 => ?_
  refine zm_set (i := 8) rfl (by decide) (we_eq (we_o (oe_call5 hs_l_lists rfl (we_var rfl) (we_var rfl) (we_var rfl) (we_var rfl) (we_var rfl))) rfl) fun lists_here_5 => ?_
  refine zm_set (i := 9) rfl (by decide) (we_eq we_int rfl) fun count_6 => ?_
  refine zm_forC [10, 11, 12] (fun s7 => [(.val (dWeb T.A) web_here), (.val (dList (d := (dT4 (d1 := dInt) (d2 := dInt) (d3 := dInt) (d4 := dInt)))) ties), (.val (dList (d := dInt)) draws_here), (.val dInt at_), (.val dInt many_1), (.val (dKL (ky := kyPair) (d := (dList (d := (dPair (d1 := dInt) (d2 := dInt)))))) table_here_2), (.val (dList (d := dInt)) label_3), (.val (dList (d := dInt)) forced_here_4), (.val (dList (d := (dList (d := dInt)))) lists_here_5), (.val dInt s7), .no, .no, .no, .no]) (fun r => .val dBool r) count_6 (wlen 14 (by exact rfl) (by exact rfl) (by decide)) rfl (fun _ => (wlen 14 (by exact rfl) (by exact rfl) (by decide))) (ie_eq (ie_list (we_var rfl)) rfl) (fun s7 x8 => (a_name rfl ⟨(wlen 14 (by exact rfl) (by exact rfl) (by decide)), ?_⟩)) rt_KF fun s18 => ?_
  · refine zm_set (i := 11) rfl (by decide) (we_eq (we_call3 hs_l_keeps rfl (we_var rfl) (we_var rfl) (we_var rfl)) rfl) fun due_9 => ?_
    refine zm_set (i := 12) rfl (by decide) (we_eq (we_o (oe_listOf (we_var rfl))) rfl) fun passed_10 => ?_
    refine zm_if (te_eq (te_or (te_not (te_B (we_call2 hs_l_same rfl (we_U (we_call2 hs_p_is_facing rfl (we_var rfl) (we_var rfl))) (we_U (we_var rfl))))) (te_test (we_neD (by decide) (re_w (we_var rfl)) (re_w (we_var rfl))))) rfl) ?_ ?_
    · exact zm_retC (we_eq we_bl rfl)
    · refine zm_skip ?_
      refine zm_last ?_
      refine zm_ifP (te_eq (te_B (we_var rfl)) rfl) ?_ ?_
      · refine zm_set (i := 9) rfl (by decide) (we_eq (we_add (re_w (we_var rfl)) (re_w we_int)) rfl) fun count_16 => ?_
        exact zm_nextC rfl
      · refine zm_skip ?_
        exact zm_nextC rfl
  · refine zm_if (te_eq (te_not (te_B (we_call2 hs_l_same rfl (we_U (we_call2 hs_p_is_facing_v2 rfl (we_var rfl) (we_tupOf (we_var rfl)))) (we_U (we_call3 hs_l_keeps rfl (we_var rfl) (we_var rfl) (we_var rfl)))))) rfl) ?_ ?_
    · exact zm_ret (we_eq we_bl rfl)
    · refine zm_skip ?_
      refine zm_join [13] (fun s35 => [(.val (dWeb T.A) web_here), (.val (dList (d := (dT4 (d1 := dInt) (d2 := dInt) (d3 := dInt) (d4 := dInt)))) ties), (.val (dList (d := dInt)) draws_here), (.val dInt at_), (.val dInt many_1), (.val (dKL (ky := kyPair) (d := (dList (d := (dPair (d1 := dInt) (d2 := dInt)))))) table_here_2), (.val (dList (d := dInt)) label_3), (.val (dList (d := dInt)) forced_here_4), (.val (dList (d := (dList (d := dInt)))) lists_here_5), (.val dInt s35), .no, .no, .no, .no]) (fun _ => (wlen 14 (by exact rfl) (by exact rfl) (by decide))) ?_ fun s35 => ?_
      · refine zm_last (zm_ifP (te_eq (te_test (we_gt (re_w (we_var rfl)) (re_w we_int))) rfl) ?_ ?_)
        · refine zm_assoc ?_
          refine zm_set (i := 9) rfl (by decide) (we_eq (we_intB (re_w (we_call3 hs_l_keeps rfl (we_var rfl) (we_var rfl) (we_var rfl)))) rfl) fun count_27 => ?_
          refine zm_for [13] (fun s28 => [(.val (dWeb T.A) web_here), (.val (dList (d := (dT4 (d1 := dInt) (d2 := dInt) (d3 := dInt) (d4 := dInt)))) ties), (.val (dList (d := dInt)) draws_here), (.val dInt at_), (.val dInt many_1), (.val (dKL (ky := kyPair) (d := (dList (d := (dPair (d1 := dInt) (d2 := dInt)))))) table_here_2), (.val (dList (d := dInt)) label_3), (.val (dList (d := dInt)) forced_here_4), (.val (dList (d := (dList (d := dInt)))) lists_here_5), (.val dInt s28), .no, .no, .no, .no]) count_27 (wlen 14 (by exact rfl) (by exact rfl) (by decide)) rfl (fun _ => (wlen 14 (by exact rfl) (by exact rfl) (by decide))) (ie_eq (ie_range (re_w (we_var rfl))) rfl) (fun s28 x29 => (a_name rfl ⟨(wlen 14 (by exact rfl) (by exact rfl) (by decide)), ?_⟩)) fun s33 => ?_
          · refine zm_last ?_
            refine zm_if (te_eq (te_test (we_eqS (re_w (we_ix (we_var rfl) (re_w (we_var rfl)))) (re_w (we_var rfl)))) rfl) ?_ ?_
            · refine zm_set (i := 9) rfl (by decide) (we_eq (we_mulCl (re_w we_int) (re_w (we_var rfl))) rfl) fun count_31 => ?_
              exact zm_nextL rfl
            · refine zm_skip ?_
              exact zm_nextL rfl
          · exact zm_nextJ rfl
        · refine zm_skip ?_
          exact zm_nextJ rfl
      · refine zm_join [] (fun s37 => [(.val (dWeb T.A) web_here), (.val (dList (d := (dT4 (d1 := dInt) (d2 := dInt) (d3 := dInt) (d4 := dInt)))) ties), (.val (dList (d := dInt)) draws_here), (.val dInt at_), (.val dInt many_1), (.val (dKL (ky := kyPair) (d := (dList (d := (dPair (d1 := dInt) (d2 := dInt)))))) table_here_2), (.val (dList (d := dInt)) label_3), (.val (dList (d := dInt)) forced_here_4), (.val (dList (d := (dList (d := dInt)))) lists_here_5), (.val dInt s37), .no, .no, .no, .no]) (fun _ => (wlen 14 (by exact rfl) (by exact rfl) (by decide))) ?_ fun s37 => ?_
        · refine zm_last (zm_ifP (te_eq (te_test (we_eqS (re_w (we_var rfl)) (re_w we_int))) rfl) ?_ ?_)
          · refine zm_set (i := 9) rfl (by decide) (we_eq we_int rfl) fun count_36 => ?_
            exact zm_nextJ rfl
          · refine zm_skip ?_
            exact zm_nextJ rfl
        · refine zm_last ?_
          exact zm_ret (we_eq (we_and (we_call2 hs_l_same rfl (we_U (we_call1 hs_p_count_facings rfl (we_var rfl))) (we_U (we_var rfl))) (we_call3 hs_l_right_groups rfl (we_var rfl) (we_var rfl) (we_var rfl))) rfl)
end K13

namespace K13
open PySem L2 G PM
set_option maxHeartbeats 4000000 in
theorem ok_p_check_end_v2 {P : Program} {w : World} {K : PySem.W.Frag} {mg : Str → Option Value} {base : Heap} (T : Txt K mg) (G_x_UnknownPlace : FnOk P w K mg base (L2.CX P w) 1 T.i_UnknownPlace T.fx_UnknownPlace ["self", "place"] (spX1 (T.A.tx .UnknownPlace) "place")) (G_x_UnknownSide : FnOk P w K mg base (L2.CX P w) 1 T.i_UnknownSide T.fx_UnknownSide ["self", "place", "side"] (spX2 (T.A.tx .UnknownSide) "place" "side")) : FnOk P w K mg base (L2.CX P w) 3 T.a_p_check_end T.f_p_check_end ["sides", "place", "side"] (sp_p_check_end_v2 ⟨P, w, K⟩ T.A) := by
  have nd := sc_p_check_end.nd
  refine T.F_p_check_end.okX sc_p_check_end (fun vs H Q E h => ?_) (fun cdv A outer s H vs Q E hr h => ?_)
  · exact sp_p_check_end_v2_len h
  have hu := hu_of hr
  refine ⟨_, (pss_cons (ps_if (PW.pt (pw_or (pt_cmpR op_lt (pv 1) pe_int (nomark _)) (pw_or1 (pt_cmpR op_ge (pv 1) (pe_callB (len_K K) (by rfl) T.b_len (by decide +kernel) (pa_cons (pv 0) pa_nil)) (nomark _)))))
        (pss_one (ps_raise rfl (takes_of rfl rfl rfl rfl) (pmk_oex T.x_UnknownPlace.T T.x_UnknownPlace.init T.x_UnknownPlace.fn G_x_UnknownPlace (hr.mono (by decide)) T.dx_UnknownPlace .nil passF (by rfl) T.g_UnknownPlace (pa_cons (pv 1) pa_nil))))
        pss_nil)
      (pss_one (ps_if (PW.pt (pw_or (pt_cmpR op_lt (pv 2) pe_int (nomark _)) (pw_or1 (pt_cmpR op_ge (pv 2) (pe_ix (ix_tK K) (pv 0) (pv 1) (fun _ _ => rfl)) (nomark _)))))
        (pss_one (ps_raise rfl (takes_of rfl rfl rfl rfl) (pmk_oex T.x_UnknownSide.T T.x_UnknownSide.init T.x_UnknownSide.fn G_x_UnknownSide (hr.mono (by decide)) T.dx_UnknownSide .nil passF (by rfl) T.g_UnknownSide (pa_cons (pv 1) (pa_cons (pv 2) pa_nil)))))
        pss_nil))), ?_⟩
  try dsimp only [cxOf]
  obtain ⟨sides, place, side, nb, h⟩ := h
  refine Zm.body (js := [0, 1, 2]) (m := p_check_end_v2_m sides place side) nb h ?_
  refine zm_to (Γ2 := [(.val (dTup (d := dInt)) sides), (.val dInt place), (.val dInt side)]) rfl ?_
  delta p_check_end_v2_m
  refine zm_ifP (te_eq (te_orP (te_test (we_lt (re_w (we_var rfl)) (re_w we_int))) (te_test (we_ge (re_w (we_var rfl)) (re_w (we_lenT (re_w (we_var rfl))))))) rfl) ?_ ?_
  · exact zm_raise1 rfl rfl (re_eq (re_w (we_var rfl)) rfl)
  · refine zm_skip ?_
    refine zm_last ?_
    refine zm_if (te_eq (te_or (te_test (we_lt (re_w (we_var rfl)) (re_w we_int))) (te_test (we_ge (re_w (we_var rfl)) (re_w (we_ixT (we_var rfl) (re_w (we_var rfl))))))) rfl) ?_ ?_
    · exact zm_raise2 rfl rfl (re_eq (re_w (we_var rfl)) rfl) (re_eq (re_w (we_var rfl)) rfl)
    · refine zm_skip ?_
      exact zm_end
end K13

namespace K13
open PySem L2 G PM
set_option maxHeartbeats 4000000 in
theorem ok_m_WebX_initX_v2 {P : Program} {w : World} {K : PySem.W.Frag} {mg : Str → Option Value} {base : Heap} (T : Txt K mg) (G_p_check_end_v2 : FnOk P w K mg base (L2.CX P w) 3 T.a_p_check_end T.f_p_check_end ["sides", "place", "side"] (sp_p_check_end_v2 ⟨P, w, K⟩ T.A)) (G_x_BadSides : FnOk P w K mg base (L2.CX P w) 1 T.i_BadSides T.fx_BadSides ["self", "place"] (spX1 (T.A.tx .BadSides) "place")) (G_x_TooLarge : FnOk P w K mg base (L2.CX P w) 1 T.i_TooLarge T.fx_TooLarge ["self", "limit"] (spX1 (T.A.tx .TooLarge) "limit")) : FnOk P w K mg base (L2.CX P w) 4 T.a_m_WebX_initX T.f_m_WebX_initX ["self", "sides", "ties"] (sp_m_WebX_initX_v2 ⟨P, w, K⟩ T.A) := by
  have nd := sc_m_WebX_initX.nd
  refine T.F_m_WebX_initX.okX sc_m_WebX_initX (fun vs H Q E h => ?_) (fun cdv A outer s H vs Q E hr h => ?_)
  · exact sp_m_WebX_initX_v2_len h
  have hu := hu_of hr
  refine ⟨_, (pss_cons (ps_if (pt_cmpR op_gt (pe_callB (len_K K) (by rfl) T.b_len (by decide +kernel) (pa_cons (pv 1) pa_nil)) (con_K K (pv 0) rfl) (nomark _))
        (pss_one (ps_raise rfl (takes_of rfl rfl rfl rfl) (pmk_oex T.x_TooLarge.T T.x_TooLarge.init T.x_TooLarge.fn G_x_TooLarge (hr.mono (by decide)) T.dx_TooLarge .nil passF (by rfl) T.g_TooLarge (pa_cons (con_K K (pv 0) rfl) pa_nil))))
        pss_nil)
      (pss_cons (ps_if (pt_cmpR op_gt (pe_callB (len_K K) (by rfl) T.b_len (by decide +kernel) (pa_cons (pv 2) pa_nil)) (con_K K (pv 0) rfl) (nomark _))
        (pss_one (ps_raise rfl (takes_of rfl rfl rfl rfl) (pmk_oex T.x_TooLarge.T T.x_TooLarge.init T.x_TooLarge.fn G_x_TooLarge (hr.mono (by decide)) T.dx_TooLarge .nil passF (by rfl) T.g_TooLarge (pa_cons (con_K K (pv 0) rfl) pa_nil))))
        pss_nil)
      (pss_cons (ps_for (passes_of rfl) rfl (pi_enumT (by rfl) T.b_enumerate (pa_cons (pv 1) pa_nil)) (pg_tupK (n := 2) K (by rfl) (pgs_cons (pg_name (i := 3) nd rfl (Or.inl rfl)) (pgs_cons (pg_name (i := 4) nd rfl (Or.inl rfl)) pgs_nil)))
        (pss_one (ps_if (PW.pt (pw_or (pt_cmpR op_lt (pv 4) pe_int (nomark _)) (pw_or1 (pt_cmpR op_gt (pv 4) (con_K K (pv 0) rfl) (nomark _)))))
        (pss_one (ps_raise rfl (takes_of rfl rfl rfl rfl) (pmk_oex T.x_BadSides.T T.x_BadSides.init T.x_BadSides.fn G_x_BadSides (hr.mono (by decide)) T.dx_BadSides .nil passF (by rfl) T.g_BadSides (pa_cons (pv 3) pa_nil))))
        pss_nil)))
      (pss_cons (ps_for (passes_of rfl) rfl (pi_tK K (pv 2)) (pg_tupK (n := 4) K (by rfl) (pgs_cons (pg_name (i := 5) nd rfl (Or.inl rfl)) (pgs_cons (pg_name (i := 6) nd rfl (Or.inl rfl)) (pgs_cons (pg_name (i := 7) nd rfl (Or.inl rfl)) (pgs_cons (pg_name (i := 8) nd rfl (Or.inl rfl)) pgs_nil)))))
        (pss_cons (ps_expr (pe_callS G_p_check_end_v2 (hr.mono (by decide)) (by rfl) T.g_p_check_end T.F_p_check_end.kp T.d_p_check_end (fun σ => passAt (takes_of rfl rfl rfl rfl) σ) (pa_cons (pv 1) (pa_cons (pv 5) (pa_cons (pv 6) pa_nil)))))
      (pss_one (ps_expr (pe_callS G_p_check_end_v2 (hr.mono (by decide)) (by rfl) T.g_p_check_end T.F_p_check_end.kp T.d_p_check_end (fun σ => passAt (takes_of rfl rfl rfl rfl) σ) (pa_cons (pv 1) (pa_cons (pv 7) (pa_cons (pv 8) pa_nil))))))))
      (pss_cons (ps_fld (pv 0) (pe_callTy (tuple_K K) (by rfl) T.b_tuple (by decide +kernel) (pa_cons (pv 1) pa_nil)) rfl)
      (pss_one (ps_fld (pv 0) (pe_callTy (tuple_K K) (by rfl) T.b_tuple (by decide +kernel) (pa_cons (pe_lc (own := [("one", 5), ("side", 6), ("other", 7), ("far_side", 8)]) (by rfl) nd (pi_tB K (pv 2)) (blkOk_by (own := [("one", 5), ("side", 6), ("other", 7), ("far_side", 8)]) (N := N_m_WebX_initX) (sc := defScope s_m_WebX_initX) (by decide +kernel)) (fun _ _ _ _ _ => (pg_tupK (n := 4) K (by rfl) (pgs_cons (pg_name (i := 5) nd rfl (Or.inl rfl)) (pgs_cons (pg_name (i := 6) nd rfl (Or.inl rfl)) (pgs_cons (pg_name (i := 7) nd rfl (Or.inl rfl)) (pgs_cons (pg_name (i := 8) nd rfl (Or.inl rfl)) pgs_nil)))))) (fun _ _ _ _ _ => pts_nil) (fun _ _ _ _ _ => (pe_tup (pa_cons (pv 5) (pa_cons (pv 6) (pa_cons (pv 7) (pa_cons (pv 8) pa_nil))))))) pa_nil)) rfl))))))), ?_⟩
  try dsimp only [cxOf]
  obtain ⟨sides, ties, nb, h⟩ := h
  refine Zm.bodyI (js := [0, 1, 2, 3, 4, 5, 6, 7, 8]) (m := m_WebX_initX_v2_m sides ties) nb h fun pp => ?_
  generalize (⟨()⟩ : Ob0) = x0
  refine zm_to (Γ2 := [(.own (dOb0 (T.A.ob .Web)) (oOb0 (T.A.ob .Web)) (some (.ref pp)) x0), (.val (dTup (d := dInt)) sides), (.val (dTup (d := (dT4 (d1 := dInt) (d2 := dInt) (d3 := dInt) (d4 := dInt)))) ties), .no, .no, .no, .no, .no, .no]) rfl ?_
  delta m_WebX_initX_v2_m
  refine zm_ifP (te_eq (te_test (we_gt (re_w (we_lenT (re_w (we_var rfl)))) (re_w (we_con isI0 T.c_Web T.k_Web_MOST_PLACES (by decide) (re_varO rfl))))) rfl) ?_ ?_
  · exact zm_raise1 rfl rfl (re_eq (re_w (we_con isI0 T.c_Web T.k_Web_MOST_PLACES (by decide) (re_varO rfl))) rfl)
  · refine zm_skip ?_
    refine zm_ifP (te_eq (te_test (we_gt (re_w (we_lenT (re_w (we_var rfl)))) (re_w (we_con isI0 T.c_Web T.k_Web_MOST_TIES (by decide) (re_varO rfl))))) rfl) ?_ ?_
    · exact zm_raise1 rfl rfl (re_eq (re_w (we_con isI0 T.c_Web T.k_Web_MOST_TIES (by decide) (re_varO rfl))) rfl)
    · refine zm_skip ?_
      refine zm_for [3, 4] (fun (_ : Unit) => [(.own (dOb0 (T.A.ob .Web)) (oOb0 (T.A.ob .Web)) (some (.ref pp)) x0), (.val (dTup (d := dInt)) sides), (.val (dTup (d := (dT4 (d1 := dInt) (d2 := dInt) (d3 := dInt) (d4 := dInt)))) ties), .no, .no, .no, .no, .no, .no]) () (wlen 9 (by exact rfl) (by exact rfl) (by decide)) rfl (fun _ => (wlen 9 (by exact rfl) (by exact rfl) (by decide))) (ie_eq (ie_enumT (we_var rfl)) rfl) (fun _ x2 => (a_pair rfl (a_name rfl (a_name rfl ⟨(wlen 9 (by exact rfl) (by exact rfl) (by decide)), ?_⟩)))) fun _ => ?_
      · refine zm_last ?_
        refine zm_ifP (te_eq (te_orP (te_test (we_lt (re_w (we_var rfl)) (re_w we_int))) (te_test (we_gt (re_w (we_var rfl)) (re_w (we_con isI0 T.c_Web T.k_Web_MOST_SIDES (by decide) (re_varO rfl)))))) rfl) ?_ ?_
        · exact zm_raise1 rfl rfl (re_eq (re_w (we_var rfl)) rfl)
        · refine zm_skip ?_
          exact zm_nextL rfl
      · refine zm_for [5, 6, 7, 8] (fun (_ : Unit) => [(.own (dOb0 (T.A.ob .Web)) (oOb0 (T.A.ob .Web)) (some (.ref pp)) x0), (.val (dTup (d := dInt)) sides), (.val (dTup (d := (dT4 (d1 := dInt) (d2 := dInt) (d3 := dInt) (d4 := dInt)))) ties), .no, .no, .no, .no, .no, .no]) () (wlen 9 (by exact rfl) (by exact rfl) (by decide)) rfl (fun _ => (wlen 9 (by exact rfl) (by exact rfl) (by decide))) (ie_eq (ie_tup (we_var rfl)) rfl) (fun _ x5 => (a_T4 rfl (a_name rfl (a_name rfl (a_name rfl (a_name rfl ⟨(wlen 9 (by exact rfl) (by exact rfl) (by decide)), ?_⟩)))))) fun _ => ?_
        · refine zm_drop (re_eq (re_w (we_call3 hs_p_check_end_v2 rfl (we_var rfl) (we_var rfl) (we_var rfl))) rfl) ?_
          refine zm_last ?_
          refine zm_drop (re_eq (re_w (we_call3 hs_p_check_end_v2 rfl (we_var rfl) (we_var rfl) (we_var rfl))) rfl) ?_
          exact zm_nextL rfl
        · refine zm_fld1 (i := 0) rfl (by decide) T.c_Web T.n_Web_sides (we_eq (we_tupOfQ (we_sqT (we_var rfl))) rfl) fun f_7 => ?_
          refine zm_last ?_
          refine zm_fld2 (i := 0) rfl (by decide) rfl T.c_Web T.n_Web_ties (we_eq (we_tupOf (we_o (oe_lc (tg_tup' (tgs_cons' (tg_name' (by decide)) (tgs_cons' (tg_name' (by decide)) (tgs_cons' (tg_name' (by decide)) (tgs_cons' (tg_name' (by decide)) tgs_nil'))))) (ic_tup (we_var rfl)) fun x8 => (a_T4 rfl (a_name rfl (a_name rfl (a_name rfl (a_name rfl ⟨te_yes, (we_tup4 (we_var rfl) (we_var rfl) (we_var rfl) (we_var rfl))⟩)))))))) rfl) fun f_10 => ?_
          exact zm_endI rfl
end K13

namespace K13
open PySem L2 G PM
set_option maxHeartbeats 4000000 in
theorem ok_m_Web_empty {P : Program} {w : World} {K : PySem.W.Frag} {mg : Str → Option Value} {base : Heap} (T : Txt K mg) (G_m_WebX_initX_v2 : FnOk P w K mg base (L2.CX P w) 4 T.a_m_WebX_initX T.f_m_WebX_initX ["self", "sides", "ties"] (sp_m_WebX_initX_v2 ⟨P, w, K⟩ T.A)) : FnOk P w K mg base (L2.CX P w) 6 T.a_m_Web_empty T.f_m_Web_empty ["cls"] (sp_m_Web_empty ⟨P, w, K⟩ T.A) := by
  have nd := sc_m_Web_empty.nd
  refine T.F_m_Web_empty.okX sc_m_Web_empty (fun vs H Q E h => ?_) (fun cdv A outer s H vs Q E hr h => ?_)
  · exact sp_m_Web_empty_len h
  have hu := hu_of hr
  refine ⟨_, (pss_one (ps_ret (pe_makeV (i := 0) T.mk_Web G_m_WebX_initX_v2 (hr.mono (by decide)) T.d_m_WebX_initX (fun σ => passAt (takes_of rfl rfl rfl rfl) σ) rfl (Or.inl rfl) (pa_cons (pe_tup pa_nil) (pa_cons (pe_tup pa_nil) pa_nil))))), ?_⟩
  try dsimp only [cxOf]
  obtain ⟨cls, nb, h⟩ := h
  refine Zm.body (js := [0]) (m := m_Web_empty_m cls) nb h ?_
  refine zm_to (Γ2 := [(.val (dCls (T.A.ob .Web)) cls)]) rfl ?_
  delta m_Web_empty_m
  refine zm_last ?_
  exact zm_retO (oe_eq (oe_mkV rfl (oe_make2 hs_m_WebX_initX_v2 rfl we_tup0 we_tup0)) rfl)
end K13

namespace K13
open PySem L2 G PM
set_option maxHeartbeats 4000000 in
theorem ok_law {P : Program} {w : World} {K : PySem.W.Frag} {mg : Str → Option Value} {base : Heap} (T : Txt K mg) (G_l_cell : FnOk P w K mg base (L2.CX P w) 1 T.a_l_cell T.f_l_cell ["_law_script", "_law_k"] (sp_l_cell ⟨P, w, K⟩ T.A)) (G_l_draws : FnOk P w K mg base (L2.CX P w) 1 T.a_l_draws T.f_l_draws ["_law_cell_here", "_law_many"] (sp_l_draws ⟨P, w, K⟩ T.A)) (G_l_pick : FnOk P w K mg base (L2.CX P w) 1 T.a_l_pick T.f_l_pick ["_law_draws_here", "_law_k", "_law_many"] (sp_l_pick ⟨P, w, K⟩ T.A)) (G_l_web : FnOk P w K mg base (L2.CX P w) 2 T.a_l_web T.f_l_web ["_law_draws_here", "_law_most_places", "_law_most_ties"] (sp_l_web ⟨P, w, K⟩ T.A)) (G_l_faced : FnOk P w K mg base (L2.CX P w) 2 T.a_l_faced T.f_l_faced ["_law_draws_here", "_law_most_places", "_law_most_ties"] (sp_l_faced ⟨P, w, K⟩ T.A)) (G_m_WebX_initX : FnOk P w K mg base (L2.CX P w) 4 T.a_m_WebX_initX T.f_m_WebX_initX ["self", "sides", "ties"] (sp_m_WebX_initX ⟨P, w, K⟩ T.A)) (G_l_right_web : FnOk P w K mg base (L2.CX P w) 12 T.a_l_right_web T.f_l_right_web ["_law_web_here", "_law_ties", "_law_draws_here", "_law_at"] (sp_l_right_web ⟨P, w, K⟩ T.A)) (G_m_Web_empty : FnOk P w K mg base (L2.CX P w) 6 T.a_m_Web_empty T.f_m_Web_empty ["cls"] (sp_m_Web_empty ⟨P, w, K⟩ T.A)) : FnOk P w K mg base CX0 13 T.a_law T.f_law ["_law_script"] (sp_law ⟨P, w, K⟩) := by
  have nd := sc_law.nd
  refine T.F_law.ok sc_law (fun vs H Q E h => ?_) (fun cdv A outer s H vs Q E hr h => ?_)
  · exact sp_law_len h
  have hu := hu_of hr
  refine ⟨_, (pss_cons (ps_set (i := 1) nd rfl (Or.inl rfl) (pe_callS G_l_draws (hr.mono (by decide)) (by rfl) T.g_l_draws T.F_l_draws.kp T.d_l_draws (fun σ => passFS σ) (pa_cons (pe_callS G_l_cell (hr.mono (by decide)) (by rfl) T.g_l_cell T.F_l_cell.kp T.d_l_cell (fun σ => passFS σ) (pa_cons (pv 0) (pa_cons pe_int pa_nil))) (pa_cons pe_int pa_nil))))
      (pss_cons (ps_set (i := 2) nd rfl (Or.inl rfl) (pe_callS G_l_draws (hr.mono (by decide)) (by rfl) T.g_l_draws T.F_l_draws.kp T.d_l_draws (fun σ => passFS σ) (pa_cons (pe_callS G_l_cell (hr.mono (by decide)) (by rfl) T.g_l_cell T.F_l_cell.kp T.d_l_cell (fun σ => passFS σ) (pa_cons (pv 0) (pa_cons pe_int pa_nil))) (pa_cons pe_int pa_nil))))
      (pss_cons (ps_set (i := 3) nd rfl (Or.inl rfl) (pe_callS G_l_pick (hr.mono (by decide)) (by rfl) T.g_l_pick T.F_l_pick.kp T.d_l_pick (fun σ => passFS σ) (pa_cons (pv 2) (pa_cons pe_int (pa_cons pe_int pa_nil)))))
      (pss_cons (ps_asg (pe_callS G_l_web (hr.mono (by decide)) (by rfl) T.g_l_web T.F_l_web.kp T.d_l_web (fun σ => passFS σ) (pa_cons (pv 1) (pa_cons pe_int (pa_cons pe_int pa_nil)))) (pg_tupK (n := 2) K (by rfl) (pgs_cons (pg_name (i := 4) nd rfl (Or.inl rfl)) (pgs_cons (pg_name (i := 5) nd rfl (Or.inl rfl)) pgs_nil))))
      (pss_cons (ps_if (pt_cmpR op_eq (pv 3) pe_int (nomark _))
        (pss_one (ps_asg (pe_callS G_l_faced (hr.mono (by decide)) (by rfl) T.g_l_faced T.F_l_faced.kp T.d_l_faced (fun σ => passFS σ) (pa_cons (pv 1) (pa_cons pe_int (pa_cons pe_int pa_nil)))) (pg_tupK (n := 3) K (by rfl) (pgs_cons (pg_name (i := 4) nd rfl (Or.inl rfl)) (pgs_cons (pg_name (i := 5) nd rfl (Or.inl rfl)) (pgs_cons (pg_name (i := 6) nd rfl (Or.inl rfl)) pgs_nil))))))
        pss_nil)
      (pss_cons (ps_if (pt_cmpR op_eq (pv 3) pe_int (nomark _))
        (pss_one (ps_asg (pe_callS G_l_web (hr.mono (by decide)) (by rfl) T.g_l_web T.F_l_web.kp T.d_l_web (fun σ => passFS σ) (pa_cons (pv 1) (pa_cons pe_int (pa_cons pe_int pa_nil)))) (pg_tupK (n := 2) K (by rfl) (pgs_cons (pg_name (i := 4) nd rfl (Or.inl rfl)) (pgs_cons (pg_name (i := 5) nd rfl (Or.inl rfl)) pgs_nil)))))
        pss_nil)
      (pss_cons (ps_if (pt_cmpR op_gt (pv 3) pe_int (nomark _))
        (pss_one (ps_asg (pe_callS G_l_faced (hr.mono (by decide)) (by rfl) T.g_l_faced T.F_l_faced.kp T.d_l_faced (fun σ => passFS σ) (pa_cons (pv 1) (pa_cons pe_int (pa_cons pe_int pa_nil)))) (pg_tupK (n := 3) K (by rfl) (pgs_cons (pg_name (i := 4) nd rfl (Or.inl rfl)) (pgs_cons (pg_name (i := 5) nd rfl (Or.inl rfl)) (pgs_cons (pg_name (i := 6) nd rfl (Or.inl rfl)) pgs_nil))))))
        pss_nil)
      (pss_cons (ps_if (pt_cmpR op_eq (pv 3) pe_int (nomark _))
        (pss_cons (ps_set (i := 7) nd rfl (Or.inl rfl) (pe_callS G_l_pick (hr.mono (by decide)) (by rfl) T.g_l_pick T.F_l_pick.kp T.d_l_pick (fun σ => passFS σ) (pa_cons (pv 2) (pa_cons pe_int (pa_cons (pe_callB (len_K K) (by rfl) T.b_len (by decide +kernel) (pa_cons (pv 4) pa_nil)) pa_nil)))))
      (pss_cons (ps_set (i := 8) nd rfl (Or.inl rfl) (pe_callS G_l_pick (hr.mono (by decide)) (by rfl) T.g_l_pick T.F_l_pick.kp T.d_l_pick (fun σ => passFS σ) (pa_cons (pv 2) (pa_cons pe_int (pa_cons (pe_callB (len_K K) (by rfl) T.b_len (by decide +kernel) (pa_cons (pv 4) pa_nil)) pa_nil)))))
      (pss_cons (ps_set (i := 9) nd rfl (Or.inl rfl) (pe_tup (pa_cons (pv 7) (pa_cons (pe_callS G_l_pick (hr.mono (by decide)) (by rfl) T.g_l_pick T.F_l_pick.kp T.d_l_pick (fun σ => passFS σ) (pa_cons (pv 2) (pa_cons pe_int (pa_cons (pe_ix (ix_lK K) (pv 4) (pv 7) (fun _ _ => rfl)) pa_nil)))) (pa_cons (pv 8) (pa_cons (pe_callS G_l_pick (hr.mono (by decide)) (by rfl) T.g_l_pick T.F_l_pick.kp T.d_l_pick (fun σ => passFS σ) (pa_cons (pv 2) (pa_cons pe_int (pa_cons (pe_ix (ix_lK K) (pv 4) (pv 8) (fun _ _ => rfl)) pa_nil)))) pa_nil))))))
      (pss_one (ps_expr (bm_K K PySem.F.plainAttrs_list PySem.F.slot_list_insert PySem.F.type_list_insert mt_insert (pv 5) (pa_cons (pe_callS G_l_pick (hr.mono (by decide)) (by rfl) T.g_l_pick T.F_l_pick.kp T.d_l_pick (fun σ => passFS σ) (pa_cons (pv 2) (pa_cons pe_int (pa_cons (pe_op op_add (pe_callB (len_K K) (by rfl) T.b_len (by decide +kernel) (pa_cons (pv 5) pa_nil)) pe_int) pa_nil)))) (pa_cons (pv 9) pa_nil))))))))
        pss_nil)
      (pss_cons (ps_set (i := 10) nd rfl (Or.inl rfl) (pe_makeS T.mk_Web G_m_WebX_initX (hr.mono (by decide)) (by rfl) T.g_Web T.d_m_WebX_initX (fun σ => passFS σ) (pa_cons (pe_callTy (list_K K) (by rfl) T.b_list (by decide +kernel) (pa_cons (pv 4) pa_nil)) (pa_cons (pe_callTy (list_K K) (by rfl) T.b_list (by decide +kernel) (pa_cons (pv 5) pa_nil)) pa_nil))))
      (pss_cons (ps_set (i := 11) nd rfl (Or.inl rfl) (pe_slice (sl_lK K) (pv 5) po_none (po_some (pe_un un_neg pe_int))))
      (pss_cons (ps_if (PW.pt (pw_or (pt_not (pt_val (pe_callS G_l_right_web (hr.mono (by decide)) (by rfl) T.g_l_right_web T.F_l_right_web.kp T.d_l_right_web (fun σ => passFS σ) (pa_cons (pv 10) (pa_cons (pv 5) (pa_cons (pv 2) (pa_cons pe_int pa_nil))))))) (pw_or1 (pt_not (pt_val (pe_callS G_l_right_web (hr.mono (by decide)) (by rfl) T.g_l_right_web T.F_l_right_web.kp T.d_l_right_web (fun σ => passFS σ) (pa_cons (pe_makeS T.mk_Web G_m_WebX_initX (hr.mono (by decide)) (by rfl) T.g_Web T.d_m_WebX_initX (fun σ => passFS σ) (pa_cons (pe_callTy (list_K K) (by rfl) T.b_list (by decide +kernel) (pa_cons (pv 4) pa_nil)) (pa_cons (pe_callTy (list_K K) (by rfl) T.b_list (by decide +kernel) (pa_cons (pv 11) pa_nil)) pa_nil))) (pa_cons (pv 11) (pa_cons (pv 2) (pa_cons pe_int pa_nil))))))))))
        (pss_one (ps_ret pe_bl))
        pss_nil)
      (pss_cons (ps_if (PW.pt (pw_or (pt_not (pt_val (pe_callS G_l_right_web (hr.mono (by decide)) (by rfl) T.g_l_right_web T.F_l_right_web.kp T.d_l_right_web (fun σ => passFS σ) (pa_cons (pv 10) (pa_cons (pv 5) (pa_cons (pv 2) (pa_cons pe_int pa_nil))))))) (pw_or1 (pt_not (pt_val (pe_callS G_l_right_web (hr.mono (by decide)) (by rfl) T.g_l_right_web T.F_l_right_web.kp T.d_l_right_web (fun σ => passFS σ) (pa_cons (pe_cmethE0 (pe_glob (v := .ref (T.A.ob .Web)) (by rfl) T.g_Web rfl) T.cm_m_Web_empty G_m_Web_empty (hr.mono (by decide)) T.d_m_Web_empty (fun σ => passFS σ)) (pa_cons (pe_lst pa_nil) (pa_cons (pv 2) (pa_cons pe_int pa_nil))))))))))
        (pss_one (ps_ret pe_bl))
        pss_nil)
      (pss_one (ps_ret (pe_and (pe_cmpR (op_eqDK K (hu64 hr)) (pe_callTy (list_K K) (by rfl) T.b_list (by decide +kernel) (pa_cons (fld_K K (pv 10) rfl) pa_nil)) (pv 4) (nomark _)) (pe_one (pe_cmpR (op_eqDK K (hu64 hr)) (pe_callTy (list_K K) (by rfl) T.b_list (by decide +kernel) (pa_cons (fld_K K (pv 10) rfl) pa_nil)) (pv 5) (nomark _)))))))))))))))))), ?_⟩
  try dsimp only [cxOf]
  obtain ⟨script, e, h⟩ := h
  refine Zm.body0 (tx := T.A.tx) (js := [0, 1, 2, 3, 4, 5, 6, 7, 8, 9, 10, 11]) (m := law_m script) e h ?_
  refine zm_to (Γ2 := [(.val (dSq (d := dInt)) script), .no, .no, .no, .no, .no, .no, .no, .no, .no, .no, .no]) rfl ?_
  delta law_m
  refine zm_set (i := 1) rfl (by decide) (we_eq (we_o (oe_call2 hs_l_draws rfl (we_call2 hs_l_cell rfl (we_var rfl) we_int) we_int)) rfl) fun draws_here_2 => ?_
  refine zm_set (i := 2) rfl (by decide) (we_eq (we_o (oe_call2 hs_l_draws rfl (we_call2 hs_l_cell rfl (we_var rfl) we_int) we_int)) rfl) fun extra_4 => ?_
  refine zm_set (i := 3) rfl (by decide) (we_eq (we_call3 hs_l_pick rfl (we_var rfl) we_int we_int) rfl) fun shape_5 => ?_
  refine zm_setP (i := 4) (j := 5) rfl rfl rfl rfl (by decide) (by decide) (oe_eq (oe_call3 hs_l_web rfl (we_var rfl) we_int we_int) rfl) fun t6 => ?_
  refine zm_join [6] (fun s8 => [(.val (dSq (d := dInt)) script), (.val (dList (d := dInt)) draws_here_2), (.val (dList (d := dInt)) extra_4), (.val dInt shape_5), (.own (dList (d := dInt)) (oList (d := dInt)) none s8.1), (.own (dList (d := (dT4 (d1 := dInt) (d2 := dInt) (d3 := dInt) (d4 := dInt)))) (oList (d := (dT4 (d1 := dInt) (d2 := dInt) (d3 := dInt) (d4 := dInt)))) none s8.2), .no, .no, .no, .no, .no, .no]) (fun _ => (wlen 12 (by exact rfl) (by exact rfl) (by decide))) ?_ fun s8 => ?_
  · refine zm_last (zm_ifP (te_eq (te_test (we_eqS (re_w (we_var rfl)) (re_w we_int))) rfl) ?_ ?_)
    · refine zm_setT3 (i := 4) (j := 5) (m := 6) rfl rfl rfl rfl rfl rfl rfl (by decide) (by decide) (by decide) (oe_eq (oe_call3 hs_l_faced rfl (we_var rfl) we_int we_int) rfl) fun t7 => ?_
      exact zm_nextJ rfl
    · refine zm_skip ?_
      exact zm_nextJ rfl
  · refine zm_join [] (fun s10 => [(.val (dSq (d := dInt)) script), (.val (dList (d := dInt)) draws_here_2), (.val (dList (d := dInt)) extra_4), (.val dInt shape_5), (.own (dList (d := dInt)) (oList (d := dInt)) none s10.1), (.own (dList (d := (dT4 (d1 := dInt) (d2 := dInt) (d3 := dInt) (d4 := dInt)))) (oList (d := (dT4 (d1 := dInt) (d2 := dInt) (d3 := dInt) (d4 := dInt)))) none s10.2), .no, .no, .no, .no, .no, .no]) (fun _ => (wlen 12 (by exact rfl) (by exact rfl) (by decide))) ?_ fun s10 => ?_
    · refine zm_last (zm_ifP (te_eq (te_test (we_eqS (re_w (we_var rfl)) (re_w we_int))) rfl) ?_ ?_)
      · refine zm_setP (i := 4) (j := 5) rfl rfl rfl rfl (by decide) (by decide) (oe_eq (oe_call3 hs_l_web rfl (we_var rfl) we_int we_int) rfl) fun t9 => ?_
        exact zm_nextJ rfl
      · refine zm_skip ?_
        exact zm_nextJ rfl
    · refine zm_join [6] (fun s12 => [(.val (dSq (d := dInt)) script), (.val (dList (d := dInt)) draws_here_2), (.val (dList (d := dInt)) extra_4), (.val dInt shape_5), (.own (dList (d := dInt)) (oList (d := dInt)) none s12.1), (.own (dList (d := (dT4 (d1 := dInt) (d2 := dInt) (d3 := dInt) (d4 := dInt)))) (oList (d := (dT4 (d1 := dInt) (d2 := dInt) (d3 := dInt) (d4 := dInt)))) none s12.2), .no, .no, .no, .no, .no, .no]) (fun _ => (wlen 12 (by exact rfl) (by exact rfl) (by decide))) ?_ fun s12 => ?_
      · refine zm_last (zm_ifP (te_eq (te_test (we_gt (re_w (we_var rfl)) (re_w we_int))) rfl) ?_ ?_)
        · refine zm_setT3 (i := 4) (j := 5) (m := 6) rfl rfl rfl rfl rfl rfl rfl (by decide) (by decide) (by decide) (oe_eq (oe_call3 hs_l_faced rfl (we_var rfl) we_int we_int) rfl) fun t11 => ?_
          exact zm_nextJ rfl
        · refine zm_skip ?_
          exact zm_nextJ rfl
      · refine zm_join [7, 8, 9] (fun s21 => [(.val (dSq (d := dInt)) script), (.val (dList (d := dInt)) draws_here_2), (.val (dList (d := dInt)) extra_4), (.val dInt shape_5), (.own (dList (d := dInt)) (oList (d := dInt)) none s12.1), (.own (dList (d := (dT4 (d1 := dInt) (d2 := dInt) (d3 := dInt) (d4 := dInt)))) (oList (d := (dT4 (d1 := dInt) (d2 := dInt) (d3 := dInt) (d4 := dInt)))) none s21), .no, .no, .no, .no, .no, .no]) (fun _ => (wlen 12 (by exact rfl) (by exact rfl) (by decide))) ?_ fun s21 => ?_
        · refine zm_last (zm_ifP (te_eq (te_test (we_eqS (re_w (we_var rfl)) (re_w we_int))) rfl) ?_ ?_)
          · refine zm_assoc ?_
            refine zm_set (i := 7) rfl (by decide) (we_eq (we_call3 hs_l_pick rfl (we_var rfl) we_int (we_len (re_varO rfl))) rfl) fun one_13 => ?_
            refine zm_assoc ?_
            refine zm_set (i := 8) rfl (by decide) (we_eq (we_call3 hs_l_pick rfl (we_var rfl) we_int (we_len (re_varO rfl))) rfl) fun other_14 => ?_
            refine zm_assoc ?_
            refine zm_set (i := 9) rfl (by decide) (we_eq (we_tup4 (we_var rfl) (we_call3 hs_l_pick rfl (we_var rfl) we_int (we_ixO rfl (re_w (we_var rfl)))) (we_var rfl) (we_call3 hs_l_pick rfl (we_var rfl) we_int (we_ixO rfl (re_w (we_var rfl))))) rfl) fun tie_19 => ?_
            refine zm_insert (i := 5) rfl (by decide) (re_eq (re_w (we_call3 hs_l_pick rfl (we_var rfl) we_int (we_add (re_w (we_len (re_varO rfl))) (re_w we_int)))) rfl) (we_eq (we_var rfl) rfl) fun ties_20 => ?_
            exact zm_nextJ rfl
          · refine zm_skip ?_
            exact zm_nextJ rfl
        · refine zm_set (i := 10) rfl (by decide) (we_eq (we_o (oe_make2 hs_m_WebX_initX rfl (we_o (oe_listOfO (re_varO rfl))) (we_o (oe_listOfO (re_varO rfl))))) rfl) fun web_here_22 => ?_
          refine zm_set (i := 11) rfl (by decide) (we_eq (we_o (oe_slR (re_varO rfl) toe_none (toe_some (re_w (we_neg (re_w we_int)))))) rfl) fun fewer_23 => ?_
          refine zm_frz 5 rfl (by decide) ?_
          refine zm_if (te_eq (te_or (te_not (te_B (we_call4 hs_l_right_web rfl (we_var rfl) (we_var rfl) (we_var rfl) we_int))) (te_not (te_B (we_call4 hs_l_right_web rfl (we_o (oe_make2 hs_m_WebX_initX rfl (we_o (oe_listOfO (re_varO rfl))) (we_o (oe_listOf (we_var rfl))))) (we_var rfl) (we_var rfl) we_int)))) rfl) ?_ ?_
          · exact zm_ret (we_eq we_bl rfl)
          · refine zm_skip ?_
            refine zm_if (te_eq (te_or (te_not (te_B (we_call4 hs_l_right_web rfl (we_var rfl) (we_var rfl) (we_var rfl) we_int))) (te_not (te_B (we_call4 hs_l_right_web rfl (we_o (oe_cm (oe_call1 hs_m_Web_empty rfl we_cls))) (we_o (oe_lst0 (d := (dT4 (d1 := dInt) (d2 := dInt) (d3 := dInt) (d4 := dInt))))) (we_var rfl) we_int)))) rfl) ?_ ?_
            · exact zm_ret (we_eq we_bl rfl)
            · refine zm_skip ?_
              refine zm_last ?_
              exact zm_ret (we_eq (we_andP (we_eqD (by decide) (re_w (we_o (oe_listOfT (we_fld (isF_Web_sides T.A) T.c_Web T.n_Web_sides (we_var rfl))))) (re_varO rfl)) (we_eqD (by decide) (re_w (we_o (oe_listOfT (we_fld (isF_Web_ties T.A) T.c_Web T.n_Web_ties (we_var rfl))))) (re_w (we_var rfl)))) rfl)
end K13

namespace K13
open PySem L2 G PM
set_option maxHeartbeats 0 in
theorem all_mk {w : World} {K : PySem.W.Frag} {h : Heap} {mg : Str → Option Value} {fa : Addr} (X : K.In h) (G : h.Ns mainGlobals mg) (hfa : mg "law" = some (.ref fa))
    {C_Web : Addr}
    {t_Web_MOST_PLACES : _}
    {t_Web_MOST_SIDES : _}
    {t_Web_MOST_TIES : _}
    {D_BadSides : Addr}
    {D_TooLarge : Addr}
    {D_UnknownPlace : Addr}
    {D_UnknownSide : Addr}
    {D_UnknownTie : Addr}
    {mv_Web : Value}
    {od0 an0 : Option Addr} {sl0 : Array (Option Value)} {oc0 kV0 dc0 pm0 cd0 ct0 : Value} {f0 : Addr}
    {od1 an1 : Option Addr} {sl1 : Array (Option Value)} {oc1 kV1 dc1 pm1 cd1 ct1 : Value} {f1 : Addr}
    {od2 an2 : Option Addr} {sl2 : Array (Option Value)} {oc2 kV2 dc2 pm2 cd2 ct2 : Value} {f2 : Addr}
    {od3 an3 : Option Addr} {sl3 : Array (Option Value)} {oc3 kV3 dc3 pm3 cd3 ct3 : Value} {f3 : Addr}
    {od4 an4 : Option Addr} {sl4 : Array (Option Value)} {oc4 kV4 dc4 pm4 cd4 ct4 : Value} {f4 : Addr}
    {od5 an5 : Option Addr} {sl5 : Array (Option Value)} {oc5 kV5 dc5 pm5 cd5 ct5 : Value} {f5 : Addr}
    {od6 an6 : Option Addr} {sl6 : Array (Option Value)} {oc6 kV6 dc6 pm6 cd6 ct6 : Value} {f6 : Addr}
    {od7 an7 : Option Addr} {sl7 : Array (Option Value)} {oc7 kV7 dc7 pm7 cd7 ct7 : Value} {f7 : Addr}
    {od8 an8 : Option Addr} {sl8 : Array (Option Value)} {oc8 kV8 dc8 pm8 cd8 ct8 : Value} {f8 : Addr}
    {od9 an9 : Option Addr} {sl9 : Array (Option Value)} {oc9 kV9 dc9 pm9 cd9 ct9 : Value} {f9 : Addr}
    {od10 an10 : Option Addr} {sl10 : Array (Option Value)} {oc10 kV10 dc10 pm10 cd10 ct10 : Value} {f10 : Addr}
    {od11 an11 : Option Addr} {sl11 : Array (Option Value)} {oc11 kV11 dc11 pm11 cd11 ct11 : Value} {f11 : Addr}
    {od12 an12 : Option Addr} {sl12 : Array (Option Value)} {oc12 kV12 dc12 pm12 cd12 ct12 : Value} {f12 : Addr}
    {od13 an13 : Option Addr} {sl13 : Array (Option Value)} {oc13 kV13 dc13 pm13 cd13 ct13 : Value} {f13 : Addr}
    {od14 an14 : Option Addr} {sl14 : Array (Option Value)} {oc14 kV14 dc14 pm14 cd14 ct14 : Value} {f14 : Addr}
    {mc_Web : Value}
    {r14 : Addr} {rest14 : List Value}
    {od15 an15 : Option Addr} {sl15 : Array (Option Value)} {oc15 kV15 dc15 pm15 cd15 ct15 : Value} {f15 : Addr}
    {od16 an16 : Option Addr} {sl16 : Array (Option Value)} {oc16 kV16 dc16 pm16 cd16 ct16 : Value} {f16 : Addr}
    {od17 an17 : Option Addr} {sl17 : Array (Option Value)} {oc17 kV17 dc17 pm17 cd17 ct17 : Value} {f17 : Addr}
    {od18 an18 : Option Addr} {sl18 : Array (Option Value)} {oc18 kV18 dc18 pm18 cd18 ct18 : Value} {f18 : Addr}
    {od19 an19 : Option Addr} {sl19 : Array (Option Value)} {oc19 kV19 dc19 pm19 cd19 ct19 : Value} {f19 : Addr}
    {od20 an20 : Option Addr} {sl20 : Array (Option Value)} {oc20 kV20 dc20 pm20 cd20 ct20 : Value} {f20 : Addr}
    {od21 an21 : Option Addr} {sl21 : Array (Option Value)} {oc21 kV21 dc21 pm21 cd21 ct21 : Value} {f21 : Addr}
    {od22 an22 : Option Addr} {sl22 : Array (Option Value)} {oc22 kV22 dc22 pm22 cd22 ct22 : Value} {f22 : Addr}
    {od23 an23 : Option Addr} {sl23 : Array (Option Value)} {oc23 kV23 dc23 pm23 cd23 ct23 : Value} {f23 : Addr}
    {od24 an24 : Option Addr} {sl24 : Array (Option Value)} {oc24 kV24 dc24 pm24 cd24 ct24 : Value} {f24 : Addr}
    {od25 an25 : Option Addr} {sl25 : Array (Option Value)} {oc25 kV25 dc25 pm25 cd25 ct25 : Value} {f25 : Addr}
    {od26 an26 : Option Addr} {sl26 : Array (Option Value)} {oc26 kV26 dc26 pm26 cd26 ct26 : Value} {f26 : Addr}
    {od27 an27 : Option Addr} {sl27 : Array (Option Value)} {oc27 kV27 dc27 pm27 cd27 ct27 : Value} {f27 : Addr}
    {od28 an28 : Option Addr} {sl28 : Array (Option Value)} {oc28 kV28 dc28 pm28 cd28 ct28 : Value} {f28 : Addr}
    {od29 an29 : Option Addr} {sl29 : Array (Option Value)} {oc29 kV29 dc29 pm29 cd29 ct29 : Value} {f29 : Addr}
    {r29 : Addr} {rest29 : List Value}
    {od30 an30 : Option Addr} {sl30 : Array (Option Value)} {oc30 kV30 dc30 pm30 cd30 ct30 : Value} {f30 : Addr}
    {xo_BadSides xd_BadSides : Option Addr} {xs_BadSides xt_BadSides xu_BadSides : Array (Option Value)} {xa_BadSides xb_BadSides xc_BadSides xdc_BadSides xpm_BadSides xct_BadSides : Value} {xf_BadSides cc_BadSides cda_BadSides : Addr} {xe_BadSides : Option Addr} {vs_BadSides : Array Value} {cdx_BadSides : ClassData}
    {nm_BadSides q_BadSides : Str} {N_BadSides : Addr} {bs_BadSides bm_BadSides : List Value} {sn_BadSides : _} {sub_BadSides : _} {ab_BadSides : _} {col_BadSides : _} {dd_BadSides : _} {k0_BadSides : _} {k1_BadSides : _} {k2_BadSides : _} {k3_BadSides : _} {k5_BadSides : _}
    {fl_BadSides : Str} {tf_BadSides : _}
    {xo_TooLarge xd_TooLarge : Option Addr} {xs_TooLarge xt_TooLarge xu_TooLarge : Array (Option Value)} {xa_TooLarge xb_TooLarge xc_TooLarge xdc_TooLarge xpm_TooLarge xct_TooLarge : Value} {xf_TooLarge cc_TooLarge cda_TooLarge : Addr} {xe_TooLarge : Option Addr} {vs_TooLarge : Array Value} {cdx_TooLarge : ClassData}
    {nm_TooLarge q_TooLarge : Str} {N_TooLarge : Addr} {bs_TooLarge bm_TooLarge : List Value} {sn_TooLarge : _} {sub_TooLarge : _} {ab_TooLarge : _} {col_TooLarge : _} {dd_TooLarge : _} {k0_TooLarge : _} {k1_TooLarge : _} {k2_TooLarge : _} {k3_TooLarge : _} {k5_TooLarge : _}
    {fl_TooLarge : Str} {tf_TooLarge : _}
    {xo_UnknownPlace xd_UnknownPlace : Option Addr} {xs_UnknownPlace xt_UnknownPlace xu_UnknownPlace : Array (Option Value)} {xa_UnknownPlace xb_UnknownPlace xc_UnknownPlace xdc_UnknownPlace xpm_UnknownPlace xct_UnknownPlace : Value} {xf_UnknownPlace cc_UnknownPlace cda_UnknownPlace : Addr} {xe_UnknownPlace : Option Addr} {vs_UnknownPlace : Array Value} {cdx_UnknownPlace : ClassData}
    {nm_UnknownPlace q_UnknownPlace : Str} {N_UnknownPlace : Addr} {bs_UnknownPlace bm_UnknownPlace : List Value} {sn_UnknownPlace : _} {sub_UnknownPlace : _} {ab_UnknownPlace : _} {col_UnknownPlace : _} {dd_UnknownPlace : _} {k0_UnknownPlace : _} {k1_UnknownPlace : _} {k2_UnknownPlace : _} {k3_UnknownPlace : _} {k5_UnknownPlace : _}
    {fl_UnknownPlace : Str} {tf_UnknownPlace : _}
    {xo_UnknownSide xd_UnknownSide : Option Addr} {xs_UnknownSide xt_UnknownSide xu_UnknownSide : Array (Option Value)} {xa_UnknownSide xb_UnknownSide xc_UnknownSide xdc_UnknownSide xpm_UnknownSide xct_UnknownSide : Value} {xf_UnknownSide cc_UnknownSide cda_UnknownSide : Addr} {xe_UnknownSide : Option Addr} {vs_UnknownSide : Array Value} {cdx_UnknownSide : ClassData}
    {nm_UnknownSide q_UnknownSide : Str} {N_UnknownSide : Addr} {bs_UnknownSide bm_UnknownSide : List Value} {sn_UnknownSide : _} {sub_UnknownSide : _} {ab_UnknownSide : _} {col_UnknownSide : _} {dd_UnknownSide : _} {k0_UnknownSide : _} {k1_UnknownSide : _} {k2_UnknownSide : _} {k3_UnknownSide : _} {k5_UnknownSide : _}
    {fl_UnknownSide : Str} {tf_UnknownSide : _}
    {xo_UnknownTie xd_UnknownTie : Option Addr} {xs_UnknownTie xt_UnknownTie xu_UnknownTie : Array (Option Value)} {xa_UnknownTie xb_UnknownTie xc_UnknownTie xdc_UnknownTie xpm_UnknownTie xct_UnknownTie : Value} {xf_UnknownTie cc_UnknownTie cda_UnknownTie : Addr} {xe_UnknownTie : Option Addr} {vs_UnknownTie : Array Value} {cdx_UnknownTie : ClassData}
    {nm_UnknownTie q_UnknownTie : Str} {N_UnknownTie : Addr} {bs_UnknownTie bm_UnknownTie : List Value} {sn_UnknownTie : _} {sub_UnknownTie : _} {ab_UnknownTie : _} {col_UnknownTie : _} {dd_UnknownTie : _} {k0_UnknownTie : _} {k1_UnknownTie : _} {k2_UnknownTie : _} {k3_UnknownTie : _} {k5_UnknownTie : _}
    {fl_UnknownTie : Str} {tf_UnknownTie : _}
    (q0 : PySem.W.nsIn K mainGlobals "Web" = some (some (.ref C_Web)))
    (q1 : PySem.W.plainGet K C_Web Str.empty = true)
    (q2 : PySem.W.hasDictIn K C_Web = true)
    (q3 : PySem.W.plainOver K C_Web = true)
    (q4 : PySem.W.findIn K (.ref C_Web) "__setattr__" = some (some (.builtin "object.__setattr__")))
    (q5 : PySem.W.findIn K (.ref C_Web) "sides" = some none)
    (q6 : PySem.W.findIn K (.ref C_Web) "ties" = some none)
    (q7 : PySem.W.findIn K (.ref C_Web) "MOST_PLACES" = some (some (.int 200 t_Web_MOST_PLACES)))
    (q8 : PySem.W.specialIn K (.int 200 t_Web_MOST_PLACES) "__get__" = some none)
    (q9 : PySem.W.findIn K (.ref C_Web) "MOST_SIDES" = some (some (.int 4 t_Web_MOST_SIDES)))
    (q10 : PySem.W.specialIn K (.int 4 t_Web_MOST_SIDES) "__get__" = some none)
    (q11 : PySem.W.findIn K (.ref C_Web) "MOST_TIES" = some (some (.int 300 t_Web_MOST_TIES)))
    (q12 : PySem.W.specialIn K (.int 300 t_Web_MOST_TIES) "__get__" = some none)
    (q13 : PySem.W.nsIn K mainGlobals "BadSides" = some (some (.ref D_BadSides)))
    (q14 : PySem.W.nsIn K mainGlobals "TooLarge" = some (some (.ref D_TooLarge)))
    (q15 : PySem.W.nsIn K mainGlobals "UnknownPlace" = some (some (.ref D_UnknownPlace)))
    (q16 : PySem.W.nsIn K mainGlobals "UnknownSide" = some (some (.ref D_UnknownSide)))
    (q17 : PySem.W.nsIn K mainGlobals "UnknownTie" = some (some (.ref D_UnknownTie)))
    (q18 : PySem.W.typeIn K (.ref C_Web) = some mv_Web)
    (q19 : PySem.W.readsIn K C_Web mv_Web = true)
    (q20 : PySem.W.specialIn K (.ref C_Web) "__getattribute__" = some (some (.builtin "type.__getattribute__")))
    (q21 : PySem.W.nsIn K mainGlobals "_law_cell" = some (some (.ref f0)))
    (q22 : K.lookup f0 = some ⟨oc0, od0, .func (PySem.W.fnOf "_law_cell" "_law_cell" (defArgs s_l_cell) (defBody s_l_cell) (defScope s_l_cell) .none kV0 dc0 pm0 an0 cd0 ct0), sl0⟩)
    (q23 : PySem.W.codeIn K cd0 "_law_cell" = true)
    (q24 : PySem.W.keepIn K (.ref f0) = true)
    (q25 : PySem.W.nsIn K mainGlobals "_law_draws" = some (some (.ref f1)))
    (q26 : K.lookup f1 = some ⟨oc1, od1, .func (PySem.W.fnOf "_law_draws" "_law_draws" (defArgs s_l_draws) (defBody s_l_draws) (defScope s_l_draws) .none kV1 dc1 pm1 an1 cd1 ct1), sl1⟩)
    (q27 : PySem.W.codeIn K cd1 "_law_draws" = true)
    (q28 : PySem.W.keepIn K (.ref f1) = true)
    (q29 : PySem.W.nsIn K mainGlobals "_law_pick" = some (some (.ref f2)))
    (q30 : K.lookup f2 = some ⟨oc2, od2, .func (PySem.W.fnOf "_law_pick" "_law_pick" (defArgs s_l_pick) (defBody s_l_pick) (defScope s_l_pick) .none kV2 dc2 pm2 an2 cd2 ct2), sl2⟩)
    (q31 : PySem.W.codeIn K cd2 "_law_pick" = true)
    (q32 : PySem.W.keepIn K (.ref f2) = true)
    (q33 : PySem.W.nsIn K mainGlobals "_law_web" = some (some (.ref f3)))
    (q34 : K.lookup f3 = some ⟨oc3, od3, .func (PySem.W.fnOf "_law_web" "_law_web" (defArgs s_l_web) (defBody s_l_web) (defScope s_l_web) .none kV3 dc3 pm3 an3 cd3 ct3), sl3⟩)
    (q35 : PySem.W.codeIn K cd3 "_law_web" = true)
    (q36 : PySem.W.keepIn K (.ref f3) = true)
    (q37 : PySem.W.nsIn K mainGlobals "_law_faced" = some (some (.ref f4)))
    (q38 : K.lookup f4 = some ⟨oc4, od4, .func (PySem.W.fnOf "_law_faced" "_law_faced" (defArgs s_l_faced) (defBody s_l_faced) (defScope s_l_faced) .none kV4 dc4 pm4 an4 cd4 ct4), sl4⟩)
    (q39 : PySem.W.codeIn K cd4 "_law_faced" = true)
    (q40 : PySem.W.keepIn K (.ref f4) = true)
    (q41 : PySem.W.nsIn K mainGlobals "check_end" = some (some (.ref f5)))
    (q42 : K.lookup f5 = some ⟨oc5, od5, .func (PySem.W.fnOf "check_end" "check_end" (defArgs s_p_check_end) (defBody s_p_check_end) (defScope s_p_check_end) .none kV5 dc5 pm5 an5 cd5 ct5), sl5⟩)
    (q43 : PySem.W.codeIn K cd5 "check_end" = true)
    (q44 : PySem.W.keepIn K (.ref f5) = true)
    (q45 : PySem.W.findIn K (.ref C_Web) "__init__" = some (some (.ref f6)))
    (q46 : PySem.W.isFn K (.ref f6) = true)
    (q47 : K.lookup f6 = some ⟨oc6, od6, .func (PySem.W.fnOf "__init__" "Web.__init__" (defArgs s_m_WebX_initX) (defBody s_m_WebX_initX) (defScope s_m_WebX_initX) .none kV6 dc6 pm6 an6 cd6 ct6), sl6⟩)
    (q48 : PySem.W.codeIn K cd6 "Web.__init__" = true)
    (q49 : PySem.W.keepIn K (.ref f6) = true)
    (q50 : PySem.W.makesIn K C_Web = true)
    (q51 : PySem.W.keepIn K (.ref C_Web) = true)
    (q52 : PySem.W.nsIn K mainGlobals "_law_table" = some (some (.ref f7)))
    (q53 : K.lookup f7 = some ⟨oc7, od7, .func (PySem.W.fnOf "_law_table" "_law_table" (defArgs s_l_table) (defBody s_l_table) (defScope s_l_table) .none kV7 dc7 pm7 an7 cd7 ct7), sl7⟩)
    (q54 : PySem.W.codeIn K cd7 "_law_table" = true)
    (q55 : PySem.W.keepIn K (.ref f7) = true)
    (q56 : PySem.W.nsIn K mainGlobals "_law_labels" = some (some (.ref f8)))
    (q57 : K.lookup f8 = some ⟨oc8, od8, .func (PySem.W.fnOf "_law_labels" "_law_labels" (defArgs s_l_labels) (defBody s_l_labels) (defScope s_l_labels) .none kV8 dc8 pm8 an8 cd8 ct8), sl8⟩)
    (q58 : PySem.W.codeIn K cd8 "_law_labels" = true)
    (q59 : PySem.W.keepIn K (.ref f8) = true)
    (q60 : PySem.W.nsIn K mainGlobals "_law_carried" = some (some (.ref f9)))
    (q61 : K.lookup f9 = some ⟨oc9, od9, .func (PySem.W.fnOf "_law_carried" "_law_carried" (defArgs s_l_carried) (defBody s_l_carried) (defScope s_l_carried) .none kV9 dc9 pm9 an9 cd9 ct9), sl9⟩)
    (q62 : PySem.W.codeIn K cd9 "_law_carried" = true)
    (q63 : PySem.W.keepIn K (.ref f9) = true)
    (q64 : PySem.W.nsIn K mainGlobals "_law_forced" = some (some (.ref f10)))
    (q65 : K.lookup f10 = some ⟨oc10, od10, .func (PySem.W.fnOf "_law_forced" "_law_forced" (defArgs s_l_forced) (defBody s_l_forced) (defScope s_l_forced) .none kV10 dc10 pm10 an10 cd10 ct10), sl10⟩)
    (q66 : PySem.W.codeIn K cd10 "_law_forced" = true)
    (q67 : PySem.W.keepIn K (.ref f10) = true)
    (q68 : PySem.W.nsIn K mainGlobals "_law_lists" = some (some (.ref f11)))
    (q69 : K.lookup f11 = some ⟨oc11, od11, .func (PySem.W.fnOf "_law_lists" "_law_lists" (defArgs s_l_lists) (defBody s_l_lists) (defScope s_l_lists) .none kV11 dc11 pm11 an11 cd11 ct11), sl11⟩)
    (q70 : PySem.W.codeIn K cd11 "_law_lists" = true)
    (q71 : PySem.W.keepIn K (.ref f11) = true)
    (q72 : PySem.W.nsIn K mainGlobals "_law_keeps" = some (some (.ref f12)))
    (q73 : K.lookup f12 = some ⟨oc12, od12, .func (PySem.W.fnOf "_law_keeps" "_law_keeps" (defArgs s_l_keeps) (defBody s_l_keeps) (defScope s_l_keeps) .none kV12 dc12 pm12 an12 cd12 ct12), sl12⟩)
    (q74 : PySem.W.codeIn K cd12 "_law_keeps" = true)
    (q75 : PySem.W.keepIn K (.ref f12) = true)
    (q76 : PySem.W.nsIn K mainGlobals "every_step" = some (some (.ref f13)))
    (q77 : K.lookup f13 = some ⟨oc13, od13, .func (PySem.W.fnOf "every_step" "every_step" (defArgs s_p_every_step) (defBody s_p_every_step) (defScope s_p_every_step) .none kV13 dc13 pm13 an13 cd13 ct13), sl13⟩)
    (q78 : PySem.W.codeIn K cd13 "every_step" = true)
    (q79 : PySem.W.keepIn K (.ref f13) = true)
    (q80 : PySem.W.typeIn K (.ref C_Web) = some mc_Web)
    (q81 : PySem.W.readsIn K C_Web mc_Web = true)
    (q82 : PySem.W.specialIn K (.ref C_Web) "__getattribute__" = some (some (.builtin "type.__getattribute__")))
    (q83 : PySem.W.findCls K (.ref C_Web) mc_Web "back" = some (.get (.builtin "staticmethod.__get__") (.ref r14) .none (.ref C_Web)))
    (q84 : PySem.W.recIn K r14 "staticmethod" = some (.ref f14 :: rest14))
    (q85 : K.lookup f14 = some ⟨oc14, od14, .func (PySem.W.fnOf "back" "Web.back" (defArgs s_m_Web_back) (defBody s_m_Web_back) (defScope s_m_Web_back) .none kV14 dc14 pm14 an14 cd14 ct14), sl14⟩)
    (q86 : PySem.W.codeIn K cd14 "Web.back" = true)
    (q87 : PySem.W.keepIn K (.ref f14) = true)
    (q88 : PySem.W.findIn K (.ref C_Web) "tail" = some (some (.ref f15)))
    (q89 : PySem.W.isFn K (.ref f15) = true)
    (q90 : K.lookup f15 = some ⟨oc15, od15, .func (PySem.W.fnOf "tail" "Web.tail" (defArgs s_m_Web_tail) (defBody s_m_Web_tail) (defScope s_m_Web_tail) .none kV15 dc15 pm15 an15 cd15 ct15), sl15⟩)
    (q91 : PySem.W.codeIn K cd15 "Web.tail" = true)
    (q92 : PySem.W.keepIn K (.ref f15) = true)
    (q93 : PySem.W.findIn K (.ref C_Web) "head" = some (some (.ref f16)))
    (q94 : PySem.W.isFn K (.ref f16) = true)
    (q95 : K.lookup f16 = some ⟨oc16, od16, .func (PySem.W.fnOf "head" "Web.head" (defArgs s_m_Web_head) (defBody s_m_Web_head) (defScope s_m_Web_head) .none kV16 dc16 pm16 an16 cd16 ct16), sl16⟩)
    (q96 : PySem.W.codeIn K cd16 "Web.head" = true)
    (q97 : PySem.W.keepIn K (.ref f16) = true)
    (q98 : PySem.W.findIn K (.ref C_Web) "__contains__" = some (some (.ref f17)))
    (q99 : PySem.W.isFn K (.ref f17) = true)
    (q100 : K.lookup f17 = some ⟨oc17, od17, .func (PySem.W.fnOf "__contains__" "Web.__contains__" (defArgs s_m_WebX_containsX) (defBody s_m_WebX_containsX) (defScope s_m_WebX_containsX) .none kV17 dc17 pm17 an17 cd17 ct17), sl17⟩)
    (q101 : PySem.W.codeIn K cd17 "Web.__contains__" = true)
    (q102 : PySem.W.keepIn K (.ref f17) = true)
    (q103 : PySem.W.findIn K (.ref C_Web) "steps_from" = some (some (.ref f18)))
    (q104 : PySem.W.isFn K (.ref f18) = true)
    (q105 : K.lookup f18 = some ⟨oc18, od18, .func (PySem.W.fnOf "steps_from" "Web.steps_from" (defArgs s_m_Web_steps_from) (defBody s_m_Web_steps_from) (defScope s_m_Web_steps_from) .none kV18 dc18 pm18 an18 cd18 ct18), sl18⟩)
    (q106 : PySem.W.codeIn K cd18 "Web.steps_from" = true)
    (q107 : PySem.W.keepIn K (.ref f18) = true)
    (q108 : PySem.W.nsIn K mainGlobals "followers" = some (some (.ref f19)))
    (q109 : K.lookup f19 = some ⟨oc19, od19, .func (PySem.W.fnOf "followers" "followers" (defArgs s_p_followers) (defBody s_p_followers) (defScope s_p_followers) .none kV19 dc19 pm19 an19 cd19 ct19), sl19⟩)
    (q110 : PySem.W.codeIn K cd19 "followers" = true)
    (q111 : PySem.W.keepIn K (.ref f19) = true)
    (q112 : PySem.W.nsIn K mainGlobals "is_facing" = some (some (.ref f20)))
    (q113 : K.lookup f20 = some ⟨oc20, od20, .func (PySem.W.fnOf "is_facing" "is_facing" (defArgs s_p_is_facing) (defBody s_p_is_facing) (defScope s_p_is_facing) .none kV20 dc20 pm20 an20 cd20 ct20), sl20⟩)
    (q114 : PySem.W.codeIn K cd20 "is_facing" = true)
    (q115 : PySem.W.keepIn K (.ref f20) = true)
    (q116 : PySem.W.nsIn K mainGlobals "_law_same" = some (some (.ref f21)))
    (q117 : K.lookup f21 = some ⟨oc21, od21, .func (PySem.W.fnOf "_law_same" "_law_same" (defArgs s_l_same) (defBody s_l_same) (defScope s_l_same) .none kV21 dc21 pm21 an21 cd21 ct21), sl21⟩)
    (q118 : PySem.W.codeIn K cd21 "_law_same" = true)
    (q119 : PySem.W.keepIn K (.ref f21) = true)
    (q120 : PySem.W.nsIn K mainGlobals "steps_alike" = some (some (.ref f22)))
    (q121 : K.lookup f22 = some ⟨oc22, od22, .func (PySem.W.fnOf "steps_alike" "steps_alike" (defArgs s_p_steps_alike) (defBody s_p_steps_alike) (defScope s_p_steps_alike) .none kV22 dc22 pm22 an22 cd22 ct22), sl22⟩)
    (q122 : PySem.W.codeIn K cd22 "steps_alike" = true)
    (q123 : PySem.W.keepIn K (.ref f22) = true)
    (q124 : PySem.W.nsIn K mainGlobals "facing" = some (some (.ref f23)))
    (q125 : K.lookup f23 = some ⟨oc23, od23, .func (PySem.W.fnOf "facing" "facing" (defArgs s_p_facing) (defBody s_p_facing) (defScope s_p_facing) .none kV23 dc23 pm23 an23 cd23 ct23), sl23⟩)
    (q126 : PySem.W.codeIn K cd23 "facing" = true)
    (q127 : PySem.W.keepIn K (.ref f23) = true)
    (q128 : PySem.W.nsIn K mainGlobals "grouped" = some (some (.ref f24)))
    (q129 : K.lookup f24 = some ⟨oc24, od24, .func (PySem.W.fnOf "grouped" "grouped" (defArgs s_p_grouped) (defBody s_p_grouped) (defScope s_p_grouped) .none kV24 dc24 pm24 an24 cd24 ct24), sl24⟩)
    (q130 : PySem.W.codeIn K cd24 "grouped" = true)
    (q131 : PySem.W.keepIn K (.ref f24) = true)
    (q132 : PySem.W.nsIn K mainGlobals "tie_groups" = some (some (.ref f25)))
    (q133 : K.lookup f25 = some ⟨oc25, od25, .func (PySem.W.fnOf "tie_groups" "tie_groups" (defArgs s_p_tie_groups) (defBody s_p_tie_groups) (defScope s_p_tie_groups) .none kV25 dc25 pm25 an25 cd25 ct25), sl25⟩)
    (q134 : PySem.W.codeIn K cd25 "tie_groups" = true)
    (q135 : PySem.W.keepIn K (.ref f25) = true)
    (q136 : PySem.W.nsIn K mainGlobals "count_facings" = some (some (.ref f26)))
    (q137 : K.lookup f26 = some ⟨oc26, od26, .func (PySem.W.fnOf "count_facings" "count_facings" (defArgs s_p_count_facings) (defBody s_p_count_facings) (defScope s_p_count_facings) .none kV26 dc26 pm26 an26 cd26 ct26), sl26⟩)
    (q138 : PySem.W.codeIn K cd26 "count_facings" = true)
    (q139 : PySem.W.keepIn K (.ref f26) = true)
    (q140 : PySem.W.nsIn K mainGlobals "_law_right_groups" = some (some (.ref f27)))
    (q141 : K.lookup f27 = some ⟨oc27, od27, .func (PySem.W.fnOf "_law_right_groups" "_law_right_groups" (defArgs s_l_right_groups) (defBody s_l_right_groups) (defScope s_l_right_groups) .none kV27 dc27 pm27 an27 cd27 ct27), sl27⟩)
    (q142 : PySem.W.codeIn K cd27 "_law_right_groups" = true)
    (q143 : PySem.W.keepIn K (.ref f27) = true)
    (q144 : PySem.W.nsIn K mainGlobals "_law_right_web" = some (some (.ref f28)))
    (q145 : K.lookup f28 = some ⟨oc28, od28, .func (PySem.W.fnOf "_law_right_web" "_law_right_web" (defArgs s_l_right_web) (defBody s_l_right_web) (defScope s_l_right_web) .none kV28 dc28 pm28 an28 cd28 ct28), sl28⟩)
    (q146 : PySem.W.codeIn K cd28 "_law_right_web" = true)
    (q147 : PySem.W.keepIn K (.ref f28) = true)
    (q148 : PySem.W.findCls K (.ref C_Web) mv_Web "empty" = some (.get (.builtin "classmethod.__get__") (.ref r29) .none (.ref C_Web)))
    (q149 : PySem.W.recIn K r29 "classmethod" = some (.ref f29 :: rest29))
    (q150 : PySem.W.fnIn K f29 = true)
    (q151 : K.lookup f29 = some ⟨oc29, od29, .func (PySem.W.fnOf "empty" "Web.empty" (defArgs s_m_Web_empty) (defBody s_m_Web_empty) (defScope s_m_Web_empty) .none kV29 dc29 pm29 an29 cd29 ct29), sl29⟩)
    (q152 : PySem.W.codeIn K cd29 "Web.empty" = true)
    (q153 : PySem.W.keepIn K (.ref f29) = true)
    (q154 : PySem.W.readsIn K C_Web mv_Web = true)
    (q155 : PySem.W.specialIn K (.ref C_Web) "__getattribute__" = some (some (.builtin "type.__getattribute__")))
    (q156 : PySem.W.nsIn K mainGlobals "law" = some (some (.ref f30)))
    (q157 : K.lookup f30 = some ⟨oc30, od30, .func (PySem.W.fnOf "law" "law" (defArgs s_law) (defBody s_law) (defScope s_law) .none kV30 dc30 pm30 an30 cd30 ct30), sl30⟩)
    (q158 : PySem.W.codeIn K cd30 "law" = true)
    (q159 : PySem.W.keepIn K (.ref f30) = true)
    (q160 : PySem.W.nsIn K mainGlobals "super" = some none)
    (q161 : PySem.W.nsIn K PySem.cStatics "thirdparty.any" = some none)
    (q162 : K.lookup D_BadSides = some (excClassObj nm_BadSides q_BadSides D_BadSides N_BadSides bs_BadSides bm_BadSides true sn_BadSides sub_BadSides ab_BadSides col_BadSides dd_BadSides k0_BadSides k1_BadSides k2_BadSides k3_BadSides k5_BadSides "ValueError.__new__"))
    (q163 : PySem.HandSPX.refsVE bm_BadSides = true)
    (q164 : PySem.W.findIn K (.ref D_BadSides) "__setattr__" = some (some (.builtin "object.__setattr__")))
    (q165 : PySem.W.subIn K (.ref D_BadSides) (.type "BaseException") = some true)
    (q166 : PySem.W.typeIn K (.ref D_BadSides) = some (.type "type"))
    (q167 : PySem.W.keepIn K (.ref D_BadSides) = true)
    (q168 : PySem.W.clsIn K D_BadSides = some cdx_BadSides)
    (q169 : PySem.W.mroIn K D_BadSides (.ref D_BadSides) = some true)
    (q170 : PySem.W.ks_superIn K D_BadSides D_BadSides "__init__" = some (some (.builtin "ValueError.__init__")))
    (q171 : PySem.W.subIn K (.ref D_BadSides) (.type "ValueError") = some true)
    (q172 : PySem.W.findIn K (.ref D_BadSides) "__init__" = some (some (.ref xf_BadSides)))
    (q173 : PySem.W.typeIn K (.ref xf_BadSides) = some (.type "function"))
    (q174 : K.lookup xf_BadSides = some ⟨xa_BadSides, xo_BadSides, .func ((initNF "__init__" "BadSides.__init__" ((clsB (topS 5)).getD 0 (.Pass ⟨0, 0, 0, 0⟩)) cc_BadSides cda_BadSides).fd xdc_BadSides xpm_BadSides xct_BadSides), xs_BadSides⟩)
    (q175 : K.lookup cc_BadSides = some ⟨xb_BadSides, xd_BadSides, .cell (some (.ref D_BadSides)), xt_BadSides⟩)
    (q176 : K.lookup cda_BadSides = some ⟨xc_BadSides, xe_BadSides, .fields vs_BadSides, xu_BadSides⟩)
    (q177 : PySem.W.codeIn K (.ref cda_BadSides) "BadSides.__init__" = true)
    (q178 : vs_BadSides[2]? = some (.str fl_BadSides tf_BadSides))
    (q179 : ((PySem.Challenge.rw_comesapart_k13_facings_counted.prog.main.file : Str) == fl_BadSides) = true)
    (q180 : PySem.W.findIn K (.ref D_BadSides) "place" = some none)
    (q181 : K.lookup D_TooLarge = some (excClassObj nm_TooLarge q_TooLarge D_TooLarge N_TooLarge bs_TooLarge bm_TooLarge true sn_TooLarge sub_TooLarge ab_TooLarge col_TooLarge dd_TooLarge k0_TooLarge k1_TooLarge k2_TooLarge k3_TooLarge k5_TooLarge "ValueError.__new__"))
    (q182 : PySem.HandSPX.refsVE bm_TooLarge = true)
    (q183 : PySem.W.findIn K (.ref D_TooLarge) "__setattr__" = some (some (.builtin "object.__setattr__")))
    (q184 : PySem.W.subIn K (.ref D_TooLarge) (.type "BaseException") = some true)
    (q185 : PySem.W.typeIn K (.ref D_TooLarge) = some (.type "type"))
    (q186 : PySem.W.keepIn K (.ref D_TooLarge) = true)
    (q187 : PySem.W.clsIn K D_TooLarge = some cdx_TooLarge)
    (q188 : PySem.W.mroIn K D_TooLarge (.ref D_TooLarge) = some true)
    (q189 : PySem.W.ks_superIn K D_TooLarge D_TooLarge "__init__" = some (some (.builtin "ValueError.__init__")))
    (q190 : PySem.W.subIn K (.ref D_TooLarge) (.type "ValueError") = some true)
    (q191 : PySem.W.findIn K (.ref D_TooLarge) "__init__" = some (some (.ref xf_TooLarge)))
    (q192 : PySem.W.typeIn K (.ref xf_TooLarge) = some (.type "function"))
    (q193 : K.lookup xf_TooLarge = some ⟨xa_TooLarge, xo_TooLarge, .func ((initNF "__init__" "TooLarge.__init__" ((clsB (topS 3)).getD 0 (.Pass ⟨0, 0, 0, 0⟩)) cc_TooLarge cda_TooLarge).fd xdc_TooLarge xpm_TooLarge xct_TooLarge), xs_TooLarge⟩)
    (q194 : K.lookup cc_TooLarge = some ⟨xb_TooLarge, xd_TooLarge, .cell (some (.ref D_TooLarge)), xt_TooLarge⟩)
    (q195 : K.lookup cda_TooLarge = some ⟨xc_TooLarge, xe_TooLarge, .fields vs_TooLarge, xu_TooLarge⟩)
    (q196 : PySem.W.codeIn K (.ref cda_TooLarge) "TooLarge.__init__" = true)
    (q197 : vs_TooLarge[2]? = some (.str fl_TooLarge tf_TooLarge))
    (q198 : ((PySem.Challenge.rw_comesapart_k13_facings_counted.prog.main.file : Str) == fl_TooLarge) = true)
    (q199 : PySem.W.findIn K (.ref D_TooLarge) "limit" = some none)
    (q200 : K.lookup D_UnknownPlace = some (excClassObj nm_UnknownPlace q_UnknownPlace D_UnknownPlace N_UnknownPlace bs_UnknownPlace bm_UnknownPlace true sn_UnknownPlace sub_UnknownPlace ab_UnknownPlace col_UnknownPlace dd_UnknownPlace k0_UnknownPlace k1_UnknownPlace k2_UnknownPlace k3_UnknownPlace k5_UnknownPlace "ValueError.__new__"))
    (q201 : PySem.HandSPX.refsVE bm_UnknownPlace = true)
    (q202 : PySem.W.findIn K (.ref D_UnknownPlace) "__setattr__" = some (some (.builtin "object.__setattr__")))
    (q203 : PySem.W.subIn K (.ref D_UnknownPlace) (.type "BaseException") = some true)
    (q204 : PySem.W.typeIn K (.ref D_UnknownPlace) = some (.type "type"))
    (q205 : PySem.W.keepIn K (.ref D_UnknownPlace) = true)
    (q206 : PySem.W.clsIn K D_UnknownPlace = some cdx_UnknownPlace)
    (q207 : PySem.W.mroIn K D_UnknownPlace (.ref D_UnknownPlace) = some true)
    (q208 : PySem.W.ks_superIn K D_UnknownPlace D_UnknownPlace "__init__" = some (some (.builtin "ValueError.__init__")))
    (q209 : PySem.W.subIn K (.ref D_UnknownPlace) (.type "ValueError") = some true)
    (q210 : PySem.W.findIn K (.ref D_UnknownPlace) "__init__" = some (some (.ref xf_UnknownPlace)))
    (q211 : PySem.W.typeIn K (.ref xf_UnknownPlace) = some (.type "function"))
    (q212 : K.lookup xf_UnknownPlace = some ⟨xa_UnknownPlace, xo_UnknownPlace, .func ((initNF "__init__" "UnknownPlace.__init__" ((clsB (topS 4)).getD 0 (.Pass ⟨0, 0, 0, 0⟩)) cc_UnknownPlace cda_UnknownPlace).fd xdc_UnknownPlace xpm_UnknownPlace xct_UnknownPlace), xs_UnknownPlace⟩)
    (q213 : K.lookup cc_UnknownPlace = some ⟨xb_UnknownPlace, xd_UnknownPlace, .cell (some (.ref D_UnknownPlace)), xt_UnknownPlace⟩)
    (q214 : K.lookup cda_UnknownPlace = some ⟨xc_UnknownPlace, xe_UnknownPlace, .fields vs_UnknownPlace, xu_UnknownPlace⟩)
    (q215 : PySem.W.codeIn K (.ref cda_UnknownPlace) "UnknownPlace.__init__" = true)
    (q216 : vs_UnknownPlace[2]? = some (.str fl_UnknownPlace tf_UnknownPlace))
    (q217 : ((PySem.Challenge.rw_comesapart_k13_facings_counted.prog.main.file : Str) == fl_UnknownPlace) = true)
    (q218 : PySem.W.findIn K (.ref D_UnknownPlace) "place" = some none)
    (q219 : K.lookup D_UnknownSide = some (excClassObj nm_UnknownSide q_UnknownSide D_UnknownSide N_UnknownSide bs_UnknownSide bm_UnknownSide true sn_UnknownSide sub_UnknownSide ab_UnknownSide col_UnknownSide dd_UnknownSide k0_UnknownSide k1_UnknownSide k2_UnknownSide k3_UnknownSide k5_UnknownSide "ValueError.__new__"))
    (q220 : PySem.HandSPX.refsVE bm_UnknownSide = true)
    (q221 : PySem.W.findIn K (.ref D_UnknownSide) "__setattr__" = some (some (.builtin "object.__setattr__")))
    (q222 : PySem.W.subIn K (.ref D_UnknownSide) (.type "BaseException") = some true)
    (q223 : PySem.W.typeIn K (.ref D_UnknownSide) = some (.type "type"))
    (q224 : PySem.W.keepIn K (.ref D_UnknownSide) = true)
    (q225 : PySem.W.clsIn K D_UnknownSide = some cdx_UnknownSide)
    (q226 : PySem.W.mroIn K D_UnknownSide (.ref D_UnknownSide) = some true)
    (q227 : PySem.W.ks_superIn K D_UnknownSide D_UnknownSide "__init__" = some (some (.builtin "ValueError.__init__")))
    (q228 : PySem.W.subIn K (.ref D_UnknownSide) (.type "ValueError") = some true)
    (q229 : PySem.W.findIn K (.ref D_UnknownSide) "__init__" = some (some (.ref xf_UnknownSide)))
    (q230 : PySem.W.typeIn K (.ref xf_UnknownSide) = some (.type "function"))
    (q231 : K.lookup xf_UnknownSide = some ⟨xa_UnknownSide, xo_UnknownSide, .func ((initNF "__init__" "UnknownSide.__init__" ((clsB (topS 6)).getD 0 (.Pass ⟨0, 0, 0, 0⟩)) cc_UnknownSide cda_UnknownSide).fd xdc_UnknownSide xpm_UnknownSide xct_UnknownSide), xs_UnknownSide⟩)
    (q232 : K.lookup cc_UnknownSide = some ⟨xb_UnknownSide, xd_UnknownSide, .cell (some (.ref D_UnknownSide)), xt_UnknownSide⟩)
    (q233 : K.lookup cda_UnknownSide = some ⟨xc_UnknownSide, xe_UnknownSide, .fields vs_UnknownSide, xu_UnknownSide⟩)
    (q234 : PySem.W.codeIn K (.ref cda_UnknownSide) "UnknownSide.__init__" = true)
    (q235 : vs_UnknownSide[2]? = some (.str fl_UnknownSide tf_UnknownSide))
    (q236 : ((PySem.Challenge.rw_comesapart_k13_facings_counted.prog.main.file : Str) == fl_UnknownSide) = true)
    (q237 : PySem.W.findIn K (.ref D_UnknownSide) "place" = some none)
    (q238 : PySem.W.findIn K (.ref D_UnknownSide) "side" = some none)
    (q239 : K.lookup D_UnknownTie = some (excClassObj nm_UnknownTie q_UnknownTie D_UnknownTie N_UnknownTie bs_UnknownTie bm_UnknownTie true sn_UnknownTie sub_UnknownTie ab_UnknownTie col_UnknownTie dd_UnknownTie k0_UnknownTie k1_UnknownTie k2_UnknownTie k3_UnknownTie k5_UnknownTie "ValueError.__new__"))
    (q240 : PySem.HandSPX.refsVE bm_UnknownTie = true)
    (q241 : PySem.W.findIn K (.ref D_UnknownTie) "__setattr__" = some (some (.builtin "object.__setattr__")))
    (q242 : PySem.W.subIn K (.ref D_UnknownTie) (.type "BaseException") = some true)
    (q243 : PySem.W.typeIn K (.ref D_UnknownTie) = some (.type "type"))
    (q244 : PySem.W.keepIn K (.ref D_UnknownTie) = true)
    (q245 : PySem.W.clsIn K D_UnknownTie = some cdx_UnknownTie)
    (q246 : PySem.W.mroIn K D_UnknownTie (.ref D_UnknownTie) = some true)
    (q247 : PySem.W.ks_superIn K D_UnknownTie D_UnknownTie "__init__" = some (some (.builtin "ValueError.__init__")))
    (q248 : PySem.W.subIn K (.ref D_UnknownTie) (.type "ValueError") = some true)
    (q249 : PySem.W.findIn K (.ref D_UnknownTie) "__init__" = some (some (.ref xf_UnknownTie)))
    (q250 : PySem.W.typeIn K (.ref xf_UnknownTie) = some (.type "function"))
    (q251 : K.lookup xf_UnknownTie = some ⟨xa_UnknownTie, xo_UnknownTie, .func ((initNF "__init__" "UnknownTie.__init__" ((clsB (topS 7)).getD 0 (.Pass ⟨0, 0, 0, 0⟩)) cc_UnknownTie cda_UnknownTie).fd xdc_UnknownTie xpm_UnknownTie xct_UnknownTie), xs_UnknownTie⟩)
    (q252 : K.lookup cc_UnknownTie = some ⟨xb_UnknownTie, xd_UnknownTie, .cell (some (.ref D_UnknownTie)), xt_UnknownTie⟩)
    (q253 : K.lookup cda_UnknownTie = some ⟨xc_UnknownTie, xe_UnknownTie, .fields vs_UnknownTie, xu_UnknownTie⟩)
    (q254 : PySem.W.codeIn K (.ref cda_UnknownTie) "UnknownTie.__init__" = true)
    (q255 : vs_UnknownTie[2]? = some (.str fl_UnknownTie tf_UnknownTie))
    (q256 : ((PySem.Challenge.rw_comesapart_k13_facings_counted.prog.main.file : Str) == fl_UnknownTie) = true)
    (q257 : PySem.W.findIn K (.ref D_UnknownTie) "tie" = some none)
    (q258 : PySem.W.nsIn K mainGlobals "abs" = some none)
    (q259 : PySem.W.nsIn K mainGlobals "all" = some none)
    (q260 : PySem.W.nsIn K mainGlobals "bool" = some none)
    (q261 : PySem.W.nsIn K mainGlobals "enumerate" = some none)
    (q262 : PySem.W.nsIn K mainGlobals "int" = some none)
    (q263 : PySem.W.nsIn K mainGlobals "isinstance" = some none)
    (q264 : PySem.W.nsIn K mainGlobals "len" = some none)
    (q265 : PySem.W.nsIn K mainGlobals "list" = some none)
    (q266 : PySem.W.nsIn K mainGlobals "min" = some none)
    (q267 : PySem.W.nsIn K mainGlobals "range" = some none)
    (q268 : PySem.W.nsIn K mainGlobals "set" = some none)
    (q269 : PySem.W.nsIn K mainGlobals "sorted" = some none)
    (q270 : PySem.W.nsIn K mainGlobals "str" = some none)
    (q271 : PySem.W.nsIn K mainGlobals "tuple" = some none)
    : ∃ fd : FuncData, (∀ (s : Shared) (v : Value), BindsTo s fd ⟨[v], []⟩ [("_law_script", v)]) ∧ ∀ base : Heap, K.In base → base.Ns mainGlobals mg → FnOk PySem.Challenge.rw_comesapart_k13_facings_counted.prog w K mg base CX0 13 fa fd ["_law_script"] (sp_law ⟨PySem.Challenge.rw_comesapart_k13_facings_counted.prog, w, K⟩) := by
  have e := hfa.symm.trans (PySem.W.mg_of X G q156)
  cases e
  have F0 := fun_mk (st := s_l_cell) q22 q23 q24
  have d0 := F0.binds (ps := ["_law_script", "_law_k"]) fun _ _ _ _ _ _ us hl => match us, hl with | [_, _], _ => rfl
  have F1 := fun_mk (st := s_l_draws) q26 q27 q28
  have d1 := F1.binds (ps := ["_law_cell_here", "_law_many"]) fun _ _ _ _ _ _ us hl => match us, hl with | [_, _], _ => rfl
  have F2 := fun_mk (st := s_l_pick) q30 q31 q32
  have d2 := F2.binds (ps := ["_law_draws_here", "_law_k", "_law_many"]) fun _ _ _ _ _ _ us hl => match us, hl with | [_, _, _], _ => rfl
  have F3 := fun_mk (st := s_l_web) q34 q35 q36
  have d3 := F3.binds (ps := ["_law_draws_here", "_law_most_places", "_law_most_ties"]) fun _ _ _ _ _ _ us hl => match us, hl with | [_, _, _], _ => rfl
  have F4 := fun_mk (st := s_l_faced) q38 q39 q40
  have d4 := F4.binds (ps := ["_law_draws_here", "_law_most_places", "_law_most_ties"]) fun _ _ _ _ _ _ us hl => match us, hl with | [_, _, _], _ => rfl
  have F5 := fun_mk (st := s_p_check_end) q42 q43 q44
  have d5 := F5.binds (ps := ["sides", "place", "side"]) fun _ _ _ _ _ _ us hl => match us, hl with | [_, _, _], _ => rfl
  have F6 := fun_mk (st := s_m_WebX_initX) q47 q48 q49
  have d6 := F6.binds (ps := ["self", "sides", "ties"]) fun _ _ _ _ _ _ us hl => match us, hl with | [_, _, _], _ => rfl
  have F7 := fun_mk (st := s_l_table) q53 q54 q55
  have d7 := F7.binds (ps := ["_law_ties"]) fun _ _ _ _ _ _ us hl => match us, hl with | [_], _ => rfl
  have F8 := fun_mk (st := s_l_labels) q57 q58 q59
  have d8 := F8.binds (ps := ["_law_table_here", "_law_many"]) fun _ _ _ _ _ _ us hl => match us, hl with | [_, _], _ => rfl
  have F9 := fun_mk (st := s_l_carried) q61 q62 q63
  have d9 := F9.binds (ps := ["_law_table_here", "_law_directions"]) fun _ _ _ _ _ _ us hl => match us, hl with | [_, _], _ => rfl
  have F10 := fun_mk (st := s_l_forced) q65 q66 q67
  have d10 := F10.binds (ps := ["_law_table_here", "_law_many"]) fun _ _ _ _ _ _ us hl => match us, hl with | [_, _], _ => rfl
  have F11 := fun_mk (st := s_l_lists) q69 q70 q71
  have d11 := F11.binds (ps := ["_law_draws_here", "_law_at", "_law_many", "_law_forced_here", "_law_label"]) fun _ _ _ _ _ _ us hl => match us, hl with | [_, _, _, _, _], _ => rfl
  have F12 := fun_mk (st := s_l_keeps) q73 q74 q75
  have d12 := F12.binds (ps := ["_law_table_here", "_law_many", "_law_directions"]) fun _ _ _ _ _ _ us hl => match us, hl with | [_, _, _], _ => rfl
  have F13 := fun_mk (st := s_p_every_step) q77 q78 q79
  have d13 := F13.binds (ps := ["web"]) fun _ _ _ _ _ _ us hl => match us, hl with | [_], _ => rfl
  have F14 := fun_mk (st := s_m_Web_back) q85 q86 q87
  have d14 := F14.binds (ps := ["step"]) fun _ _ _ _ _ _ us hl => match us, hl with | [_], _ => rfl
  have F15 := fun_mk (st := s_m_Web_tail) q90 q91 q92
  have d15 := F15.binds (ps := ["self", "step"]) fun _ _ _ _ _ _ us hl => match us, hl with | [_, _], _ => rfl
  have F16 := fun_mk (st := s_m_Web_head) q95 q96 q97
  have d16 := F16.binds (ps := ["self", "step"]) fun _ _ _ _ _ _ us hl => match us, hl with | [_, _], _ => rfl
  have F17 := fun_mk (st := s_m_WebX_containsX) q100 q101 q102
  have d17 := F17.binds (ps := ["self", "place"]) fun _ _ _ _ _ _ us hl => match us, hl with | [_, _], _ => rfl
  have F18 := fun_mk (st := s_m_Web_steps_from) q105 q106 q107
  have d18 := F18.binds (ps := ["self", "place"]) fun _ _ _ _ _ _ us hl => match us, hl with | [_, _], _ => rfl
  have F19 := fun_mk (st := s_p_followers) q109 q110 q111
  have d19 := F19.binds (ps := ["web", "step"]) fun _ _ _ _ _ _ us hl => match us, hl with | [_, _], _ => rfl
  have F20 := fun_mk (st := s_p_is_facing) q113 q114 q115
  have d20 := F20.binds (ps := ["web", "directions"]) fun _ _ _ _ _ _ us hl => match us, hl with | [_, _], _ => rfl
  have F21 := fun_mk (st := s_l_same) q117 q118 q119
  have d21 := F21.binds (ps := ["_law_told", "_law_due"]) fun _ _ _ _ _ _ us hl => match us, hl with | [_, _], _ => rfl
  have F22 := fun_mk (st := s_p_steps_alike) q121 q122 q123
  have d22 := F22.binds (ps := ["web", "step"]) fun _ _ _ _ _ _ us hl => match us, hl with | [_, _], _ => rfl
  have F23 := fun_mk (st := s_p_facing) q125 q126 q127
  have d23 := F23.binds (ps := ["web"]) fun _ _ _ _ _ _ us hl => match us, hl with | [_], _ => rfl
  have F24 := fun_mk (st := s_p_grouped) q129 q130 q131
  have d24 := F24.binds (ps := ["points", "ties"]) fun _ _ _ _ _ _ us hl => match us, hl with | [_, _], _ => rfl
  have F25 := fun_mk (st := s_p_tie_groups) q133 q134 q135
  have d25 := F25.binds (ps := ["web"]) fun _ _ _ _ _ _ us hl => match us, hl with | [_], _ => rfl
  have F26 := fun_mk (st := s_p_count_facings) q137 q138 q139
  have d26 := F26.binds (ps := ["web"]) fun _ _ _ _ _ _ us hl => match us, hl with | [_], _ => rfl
  have F27 := fun_mk (st := s_l_right_groups) q141 q142 q143
  have d27 := F27.binds (ps := ["_law_web_here", "_law_label", "_law_many"]) fun _ _ _ _ _ _ us hl => match us, hl with | [_, _, _], _ => rfl
  have F28 := fun_mk (st := s_l_right_web) q145 q146 q147
  have d28 := F28.binds (ps := ["_law_web_here", "_law_ties", "_law_draws_here", "_law_at"]) fun _ _ _ _ _ _ us hl => match us, hl with | [_, _, _, _], _ => rfl
  have F29 := fun_mk (st := s_m_Web_empty) q151 q152 q153
  have d29 := F29.binds (ps := ["cls"]) fun _ _ _ _ _ _ us hl => match us, hl with | [_], _ => rfl
  have F30 := fun_mk (st := s_law) q157 q158 q159
  have d30 := F30.binds (ps := ["_law_script"]) fun _ _ _ _ _ _ us hl => match us, hl with | [_], _ => rfl
  let T : Txt K mg := {
    A := ⟨fun c => match c with | .BadSides => D_BadSides | .TooLarge => D_TooLarge | .UnknownPlace => D_UnknownPlace | .UnknownSide => D_UnknownSide | .UnknownTie => D_UnknownTie | _ => 0, fun c => match c with | .Web => C_Web | _ => 0⟩
    g_Web := PySem.W.mg_of X G q0
    c_Web := ⟨q1, q2, q3, q4⟩
    n_Web_sides := q5
    n_Web_ties := q6
    u_Web_MOST_PLACES := _
    k_Web_MOST_PLACES := ⟨q7, ⟨_, rfl⟩, q8, by decide +kernel⟩
    u_Web_MOST_SIDES := _
    k_Web_MOST_SIDES := ⟨q9, ⟨_, rfl⟩, q10, by decide +kernel⟩
    u_Web_MOST_TIES := _
    k_Web_MOST_TIES := ⟨q11, ⟨_, rfl⟩, q12, by decide +kernel⟩
    g_BadSides := PySem.W.mg_of X G q13
    g_TooLarge := PySem.W.mg_of X G q14
    g_UnknownPlace := PySem.W.mg_of X G q15
    g_UnknownSide := PySem.W.mg_of X G q16
    g_UnknownTie := PySem.W.mg_of X G q17
    mv_Web := mv_Web
    cr_Web := ⟨q19, q20⟩
    g_l_cell := PySem.W.mg_of X G q21
    a_l_cell := _
    f_l_cell := _
    F_l_cell := F0
    d_l_cell := d0
    g_l_draws := PySem.W.mg_of X G q25
    a_l_draws := _
    f_l_draws := _
    F_l_draws := F1
    d_l_draws := d1
    g_l_pick := PySem.W.mg_of X G q29
    a_l_pick := _
    f_l_pick := _
    F_l_pick := F2
    d_l_pick := d2
    g_l_web := PySem.W.mg_of X G q33
    a_l_web := _
    f_l_web := _
    F_l_web := F3
    d_l_web := d3
    g_l_faced := PySem.W.mg_of X G q37
    a_l_faced := _
    f_l_faced := _
    F_l_faced := F4
    d_l_faced := d4
    g_p_check_end := PySem.W.mg_of X G q41
    a_p_check_end := _
    f_p_check_end := _
    F_p_check_end := F5
    d_p_check_end := d5
    a_m_WebX_initX := _
    f_m_WebX_initX := _
    F_m_WebX_initX := F6
    d_m_WebX_initX := d6
    mk_Web := ⟨q50, q45, q46, q51⟩
    g_l_table := PySem.W.mg_of X G q52
    a_l_table := _
    f_l_table := _
    F_l_table := F7
    d_l_table := d7
    g_l_labels := PySem.W.mg_of X G q56
    a_l_labels := _
    f_l_labels := _
    F_l_labels := F8
    d_l_labels := d8
    g_l_carried := PySem.W.mg_of X G q60
    a_l_carried := _
    f_l_carried := _
    F_l_carried := F9
    d_l_carried := d9
    g_l_forced := PySem.W.mg_of X G q64
    a_l_forced := _
    f_l_forced := _
    F_l_forced := F10
    d_l_forced := d10
    g_l_lists := PySem.W.mg_of X G q68
    a_l_lists := _
    f_l_lists := _
    F_l_lists := F11
    d_l_lists := d11
    g_l_keeps := PySem.W.mg_of X G q72
    a_l_keeps := _
    f_l_keeps := _
    F_l_keeps := F12
    d_l_keeps := d12
    g_p_every_step := PySem.W.mg_of X G q76
    a_p_every_step := _
    f_p_every_step := _
    F_p_every_step := F13
    d_p_every_step := d13
    mc_Web := mc_Web
    a_m_Web_back := _
    f_m_Web_back := _
    F_m_Web_back := F14
    d_m_Web_back := d14
    q_m_Web_back := _
    sm_m_Web_back := ⟨q80, q81, q82, q83, ⟨_, q84⟩, q87⟩
    a_m_Web_tail := _
    f_m_Web_tail := _
    F_m_Web_tail := F15
    d_m_Web_tail := d15
    me_m_Web_tail := ⟨q88, q89, q92⟩
    a_m_Web_head := _
    f_m_Web_head := _
    F_m_Web_head := F16
    d_m_Web_head := d16
    me_m_Web_head := ⟨q93, q94, q97⟩
    a_m_WebX_containsX := _
    f_m_WebX_containsX := _
    F_m_WebX_containsX := F17
    d_m_WebX_containsX := d17
    me_m_WebX_containsX := ⟨q98, q99, q102⟩
    a_m_Web_steps_from := _
    f_m_Web_steps_from := _
    F_m_Web_steps_from := F18
    d_m_Web_steps_from := d18
    me_m_Web_steps_from := ⟨q103, q104, q107⟩
    g_p_followers := PySem.W.mg_of X G q108
    a_p_followers := _
    f_p_followers := _
    F_p_followers := F19
    d_p_followers := d19
    g_p_is_facing := PySem.W.mg_of X G q112
    a_p_is_facing := _
    f_p_is_facing := _
    F_p_is_facing := F20
    d_p_is_facing := d20
    g_l_same := PySem.W.mg_of X G q116
    a_l_same := _
    f_l_same := _
    F_l_same := F21
    d_l_same := d21
    g_p_steps_alike := PySem.W.mg_of X G q120
    a_p_steps_alike := _
    f_p_steps_alike := _
    F_p_steps_alike := F22
    d_p_steps_alike := d22
    g_p_facing := PySem.W.mg_of X G q124
    a_p_facing := _
    f_p_facing := _
    F_p_facing := F23
    d_p_facing := d23
    g_p_grouped := PySem.W.mg_of X G q128
    a_p_grouped := _
    f_p_grouped := _
    F_p_grouped := F24
    d_p_grouped := d24
    g_p_tie_groups := PySem.W.mg_of X G q132
    a_p_tie_groups := _
    f_p_tie_groups := _
    F_p_tie_groups := F25
    d_p_tie_groups := d25
    g_p_count_facings := PySem.W.mg_of X G q136
    a_p_count_facings := _
    f_p_count_facings := _
    F_p_count_facings := F26
    d_p_count_facings := d26
    g_l_right_groups := PySem.W.mg_of X G q140
    a_l_right_groups := _
    f_l_right_groups := _
    F_l_right_groups := F27
    d_l_right_groups := d27
    g_l_right_web := PySem.W.mg_of X G q144
    a_l_right_web := _
    f_l_right_web := _
    F_l_right_web := F28
    d_l_right_web := d28
    a_m_Web_empty := _
    f_m_Web_empty := _
    F_m_Web_empty := F29
    d_m_Web_empty := d29
    q_m_Web_empty := _
    cm_m_Web_empty := ⟨⟨q154, q155⟩, ⟨q148, ⟨_, q149⟩, q150⟩⟩
    g_law := PySem.W.mg_of X G q156
    a_law := _
    f_law := _
    F_law := F30
    d_law := d30
    i_BadSides := xf_BadSides
    fx_BadSides := (initNF "__init__" "BadSides.__init__" ((clsB (topS 5)).getD 0 (.Pass ⟨0, 0, 0, 0⟩)) cc_BadSides cda_BadSides).fd xdc_BadSides xpm_BadSides xct_BadSides
    x_BadSides := ⟨⟨⟨_, _, _, _, _, _, _, _, _, _, _, _, _, _, _, q162, q163⟩, q164, q165, q166, q167⟩, ⟨_, q168⟩, q169, q170, q171, q172, q173⟩
    dx_BadSides := fun s us _ hl => BindsTo.of_eq (match us, hl with | [_, _], _ => rfl)
    i_TooLarge := xf_TooLarge
    fx_TooLarge := (initNF "__init__" "TooLarge.__init__" ((clsB (topS 3)).getD 0 (.Pass ⟨0, 0, 0, 0⟩)) cc_TooLarge cda_TooLarge).fd xdc_TooLarge xpm_TooLarge xct_TooLarge
    x_TooLarge := ⟨⟨⟨_, _, _, _, _, _, _, _, _, _, _, _, _, _, _, q181, q182⟩, q183, q184, q185, q186⟩, ⟨_, q187⟩, q188, q189, q190, q191, q192⟩
    dx_TooLarge := fun s us _ hl => BindsTo.of_eq (match us, hl with | [_, _], _ => rfl)
    i_UnknownPlace := xf_UnknownPlace
    fx_UnknownPlace := (initNF "__init__" "UnknownPlace.__init__" ((clsB (topS 4)).getD 0 (.Pass ⟨0, 0, 0, 0⟩)) cc_UnknownPlace cda_UnknownPlace).fd xdc_UnknownPlace xpm_UnknownPlace xct_UnknownPlace
    x_UnknownPlace := ⟨⟨⟨_, _, _, _, _, _, _, _, _, _, _, _, _, _, _, q200, q201⟩, q202, q203, q204, q205⟩, ⟨_, q206⟩, q207, q208, q209, q210, q211⟩
    dx_UnknownPlace := fun s us _ hl => BindsTo.of_eq (match us, hl with | [_, _], _ => rfl)
    i_UnknownSide := xf_UnknownSide
    fx_UnknownSide := (initNF "__init__" "UnknownSide.__init__" ((clsB (topS 6)).getD 0 (.Pass ⟨0, 0, 0, 0⟩)) cc_UnknownSide cda_UnknownSide).fd xdc_UnknownSide xpm_UnknownSide xct_UnknownSide
    x_UnknownSide := ⟨⟨⟨_, _, _, _, _, _, _, _, _, _, _, _, _, _, _, q219, q220⟩, q221, q222, q223, q224⟩, ⟨_, q225⟩, q226, q227, q228, q229, q230⟩
    dx_UnknownSide := fun s us _ hl => BindsTo.of_eq (match us, hl with | [_, _, _], _ => rfl)
    i_UnknownTie := xf_UnknownTie
    fx_UnknownTie := (initNF "__init__" "UnknownTie.__init__" ((clsB (topS 7)).getD 0 (.Pass ⟨0, 0, 0, 0⟩)) cc_UnknownTie cda_UnknownTie).fd xdc_UnknownTie xpm_UnknownTie xct_UnknownTie
    x_UnknownTie := ⟨⟨⟨_, _, _, _, _, _, _, _, _, _, _, _, _, _, _, q239, q240⟩, q241, q242, q243, q244⟩, ⟨_, q245⟩, q246, q247, q248, q249, q250⟩
    dx_UnknownTie := fun s us _ hl => BindsTo.of_eq (match us, hl with | [_, _], _ => rfl)
    b_abs := PySem.W.mg_none_of X G q258
    b_all := PySem.W.mg_none_of X G q259
    b_bool := PySem.W.mg_none_of X G q260
    b_enumerate := PySem.W.mg_none_of X G q261
    b_int := PySem.W.mg_none_of X G q262
    b_isinstance := PySem.W.mg_none_of X G q263
    b_len := PySem.W.mg_none_of X G q264
    b_list := PySem.W.mg_none_of X G q265
    b_min := PySem.W.mg_none_of X G q266
    b_range := PySem.W.mg_none_of X G q267
    b_set := PySem.W.mg_none_of X G q268
    b_sorted := PySem.W.mg_none_of X G q269
    b_str := PySem.W.mg_none_of X G q270
    b_tuple := PySem.W.mg_none_of X G q271
  }
  have G_x_BadSides : ∀ base : Heap, FnOk PySem.Challenge.rw_comesapart_k13_facings_counted.prog w K mg base (L2.CX PySem.Challenge.rw_comesapart_k13_facings_counted.prog w) 1 T.i_BadSides T.fx_BadSides ["self", "place"] (spX1 (T.A.tx .BadSides) "place") := fun base => fok_exc1 (k := 0) (ar := ((defArgs ((clsB (topS 5)).getD 0 (.Pass ⟨0, 0, 0, 0⟩))).posonlyargs ++ (defArgs ((clsB (topS 5)).getD 0 (.Pass ⟨0, 0, 0, 0⟩))).args).headD ⟨"", none, ⟨0, 0, 0, 0⟩⟩) (F := initNF "__init__" "BadSides.__init__" ((clsB (topS 5)).getD 0 (.Pass ⟨0, 0, 0, 0⟩)) cc_BadSides cda_BadSides) (D := D_BadSides) (f := xf_BadSides) (show NdefX.NScope ["self", "place", "__class__"] ["self", "place"] ["__class__"] (defScope ((clsB (topS 5)).getD 0 (.Pass ⟨0, 0, 0, 0⟩))) from NdefX.nscope_by (by decide +kernel)) rfl rfl (by decide +kernel) (by decide +kernel) (by decide) (by decide) (show (defScope ((clsB (topS 5)).getD 0 (.Pass ⟨0, 0, 0, 0⟩))).names.lookup ("super" : PySem.Str) = some NameKind.globalImplicit from by decide +kernel) q174 rfl q175 q176 q178 q177 q179 T.x_BadSides q180 (PySem.W.mg_none_of X G q160) (by decide +kernel) q161 (by intro _; rfl)
  have G_x_TooLarge : ∀ base : Heap, FnOk PySem.Challenge.rw_comesapart_k13_facings_counted.prog w K mg base (L2.CX PySem.Challenge.rw_comesapart_k13_facings_counted.prog w) 1 T.i_TooLarge T.fx_TooLarge ["self", "limit"] (spX1 (T.A.tx .TooLarge) "limit") := fun base => fok_exc1 (k := 0) (ar := ((defArgs ((clsB (topS 3)).getD 0 (.Pass ⟨0, 0, 0, 0⟩))).posonlyargs ++ (defArgs ((clsB (topS 3)).getD 0 (.Pass ⟨0, 0, 0, 0⟩))).args).headD ⟨"", none, ⟨0, 0, 0, 0⟩⟩) (F := initNF "__init__" "TooLarge.__init__" ((clsB (topS 3)).getD 0 (.Pass ⟨0, 0, 0, 0⟩)) cc_TooLarge cda_TooLarge) (D := D_TooLarge) (f := xf_TooLarge) (show NdefX.NScope ["self", "limit", "__class__"] ["self", "limit"] ["__class__"] (defScope ((clsB (topS 3)).getD 0 (.Pass ⟨0, 0, 0, 0⟩))) from NdefX.nscope_by (by decide +kernel)) rfl rfl (by decide +kernel) (by decide +kernel) (by decide) (by decide) (show (defScope ((clsB (topS 3)).getD 0 (.Pass ⟨0, 0, 0, 0⟩))).names.lookup ("super" : PySem.Str) = some NameKind.globalImplicit from by decide +kernel) q193 rfl q194 q195 q197 q196 q198 T.x_TooLarge q199 (PySem.W.mg_none_of X G q160) (by decide +kernel) q161 (by intro _; rfl)
  have G_x_UnknownPlace : ∀ base : Heap, FnOk PySem.Challenge.rw_comesapart_k13_facings_counted.prog w K mg base (L2.CX PySem.Challenge.rw_comesapart_k13_facings_counted.prog w) 1 T.i_UnknownPlace T.fx_UnknownPlace ["self", "place"] (spX1 (T.A.tx .UnknownPlace) "place") := fun base => fok_exc1 (k := 0) (ar := ((defArgs ((clsB (topS 4)).getD 0 (.Pass ⟨0, 0, 0, 0⟩))).posonlyargs ++ (defArgs ((clsB (topS 4)).getD 0 (.Pass ⟨0, 0, 0, 0⟩))).args).headD ⟨"", none, ⟨0, 0, 0, 0⟩⟩) (F := initNF "__init__" "UnknownPlace.__init__" ((clsB (topS 4)).getD 0 (.Pass ⟨0, 0, 0, 0⟩)) cc_UnknownPlace cda_UnknownPlace) (D := D_UnknownPlace) (f := xf_UnknownPlace) (show NdefX.NScope ["self", "place", "__class__"] ["self", "place"] ["__class__"] (defScope ((clsB (topS 4)).getD 0 (.Pass ⟨0, 0, 0, 0⟩))) from NdefX.nscope_by (by decide +kernel)) rfl rfl (by decide +kernel) (by decide +kernel) (by decide) (by decide) (show (defScope ((clsB (topS 4)).getD 0 (.Pass ⟨0, 0, 0, 0⟩))).names.lookup ("super" : PySem.Str) = some NameKind.globalImplicit from by decide +kernel) q212 rfl q213 q214 q216 q215 q217 T.x_UnknownPlace q218 (PySem.W.mg_none_of X G q160) (by decide +kernel) q161 (by intro _; rfl)
  have G_x_UnknownSide : ∀ base : Heap, FnOk PySem.Challenge.rw_comesapart_k13_facings_counted.prog w K mg base (L2.CX PySem.Challenge.rw_comesapart_k13_facings_counted.prog w) 1 T.i_UnknownSide T.fx_UnknownSide ["self", "place", "side"] (spX2 (T.A.tx .UnknownSide) "place" "side") := fun base => fok_exc2 (k := 0) (ar := ((defArgs ((clsB (topS 6)).getD 0 (.Pass ⟨0, 0, 0, 0⟩))).posonlyargs ++ (defArgs ((clsB (topS 6)).getD 0 (.Pass ⟨0, 0, 0, 0⟩))).args).headD ⟨"", none, ⟨0, 0, 0, 0⟩⟩) (F := initNF "__init__" "UnknownSide.__init__" ((clsB (topS 6)).getD 0 (.Pass ⟨0, 0, 0, 0⟩)) cc_UnknownSide cda_UnknownSide) (D := D_UnknownSide) (f := xf_UnknownSide) (show NdefX.NScope ["self", "place", "side", "__class__"] ["self", "place", "side"] ["__class__"] (defScope ((clsB (topS 6)).getD 0 (.Pass ⟨0, 0, 0, 0⟩))) from NdefX.nscope_by (by decide +kernel)) rfl rfl (by decide +kernel) (by decide +kernel) (by decide) (by decide) (by decide) (by decide) (show (defScope ((clsB (topS 6)).getD 0 (.Pass ⟨0, 0, 0, 0⟩))).names.lookup ("super" : PySem.Str) = some NameKind.globalImplicit from by decide +kernel) q231 rfl q232 q233 q235 q234 q236 T.x_UnknownSide q237 q238 (PySem.W.mg_none_of X G q160) (by decide +kernel) q161 (by intro _; rfl)
  have G_x_UnknownTie : ∀ base : Heap, FnOk PySem.Challenge.rw_comesapart_k13_facings_counted.prog w K mg base (L2.CX PySem.Challenge.rw_comesapart_k13_facings_counted.prog w) 1 T.i_UnknownTie T.fx_UnknownTie ["self", "tie"] (spX1 (T.A.tx .UnknownTie) "tie") := fun base => fok_exc1 (k := 0) (ar := ((defArgs ((clsB (topS 7)).getD 0 (.Pass ⟨0, 0, 0, 0⟩))).posonlyargs ++ (defArgs ((clsB (topS 7)).getD 0 (.Pass ⟨0, 0, 0, 0⟩))).args).headD ⟨"", none, ⟨0, 0, 0, 0⟩⟩) (F := initNF "__init__" "UnknownTie.__init__" ((clsB (topS 7)).getD 0 (.Pass ⟨0, 0, 0, 0⟩)) cc_UnknownTie cda_UnknownTie) (D := D_UnknownTie) (f := xf_UnknownTie) (show NdefX.NScope ["self", "tie", "__class__"] ["self", "tie"] ["__class__"] (defScope ((clsB (topS 7)).getD 0 (.Pass ⟨0, 0, 0, 0⟩))) from NdefX.nscope_by (by decide +kernel)) rfl rfl (by decide +kernel) (by decide +kernel) (by decide) (by decide) (show (defScope ((clsB (topS 7)).getD 0 (.Pass ⟨0, 0, 0, 0⟩))).names.lookup ("super" : PySem.Str) = some NameKind.globalImplicit from by decide +kernel) q251 rfl q252 q253 q255 q254 q256 T.x_UnknownTie q257 (PySem.W.mg_none_of X G q160) (by decide +kernel) q161 (by intro _; rfl)
  refine ⟨PySem.W.fnOf "law" "law" (defArgs s_law) (defBody s_law) (defScope s_law) .none kV30 dc30 pm30 an30 cd30 ct30, fun s v => .of_eq rfl, fun base _ _ => ?_⟩
  have G_l_cell := ok_l_cell (P := PySem.Challenge.rw_comesapart_k13_facings_counted.prog) (w := w) (base := base) T
  have G_l_draws := ok_l_draws (P := PySem.Challenge.rw_comesapart_k13_facings_counted.prog) (w := w) (base := base) T
  have G_l_pick := ok_l_pick (P := PySem.Challenge.rw_comesapart_k13_facings_counted.prog) (w := w) (base := base) T
  have G_l_web := ok_l_web (P := PySem.Challenge.rw_comesapart_k13_facings_counted.prog) (w := w) (base := base) T G_l_pick
  have G_l_faced := ok_l_faced (P := PySem.Challenge.rw_comesapart_k13_facings_counted.prog) (w := w) (base := base) T G_l_pick
  have G_p_check_end := ok_p_check_end (P := PySem.Challenge.rw_comesapart_k13_facings_counted.prog) (w := w) (base := base) T (G_x_UnknownPlace base) (G_x_UnknownSide base)
  have G_m_WebX_initX := ok_m_WebX_initX (P := PySem.Challenge.rw_comesapart_k13_facings_counted.prog) (w := w) (base := base) T G_p_check_end (G_x_BadSides base) (G_x_TooLarge base)
  have G_l_table := ok_l_table (P := PySem.Challenge.rw_comesapart_k13_facings_counted.prog) (w := w) (base := base) T
  have G_l_labels := ok_l_labels (P := PySem.Challenge.rw_comesapart_k13_facings_counted.prog) (w := w) (base := base) T
  have G_l_carried := ok_l_carried (P := PySem.Challenge.rw_comesapart_k13_facings_counted.prog) (w := w) (base := base) T
  have G_l_forced := ok_l_forced (P := PySem.Challenge.rw_comesapart_k13_facings_counted.prog) (w := w) (base := base) T G_l_carried
  have G_l_lists := ok_l_lists (P := PySem.Challenge.rw_comesapart_k13_facings_counted.prog) (w := w) (base := base) T G_l_pick
  have G_l_keeps := ok_l_keeps (P := PySem.Challenge.rw_comesapart_k13_facings_counted.prog) (w := w) (base := base) T
  have G_p_every_step := ok_p_every_step (P := PySem.Challenge.rw_comesapart_k13_facings_counted.prog) (w := w) (base := base) T
  have G_m_Web_back := ok_m_Web_back (P := PySem.Challenge.rw_comesapart_k13_facings_counted.prog) (w := w) (base := base) T
  have G_m_Web_tail := ok_m_Web_tail (P := PySem.Challenge.rw_comesapart_k13_facings_counted.prog) (w := w) (base := base) T (G_x_UnknownTie base)
  have G_m_Web_head := ok_m_Web_head (P := PySem.Challenge.rw_comesapart_k13_facings_counted.prog) (w := w) (base := base) T G_m_Web_back G_m_Web_tail
  have G_m_WebX_containsX := ok_m_WebX_containsX (P := PySem.Challenge.rw_comesapart_k13_facings_counted.prog) (w := w) (base := base) T
  have G_m_Web_steps_from := ok_m_Web_steps_from (P := PySem.Challenge.rw_comesapart_k13_facings_counted.prog) (w := w) (base := base) T G_m_WebX_containsX (G_x_UnknownPlace base)
  have G_p_followers := ok_p_followers (P := PySem.Challenge.rw_comesapart_k13_facings_counted.prog) (w := w) (base := base) T G_m_Web_head G_m_Web_steps_from G_m_Web_tail
  have G_p_is_facing := ok_p_is_facing (P := PySem.Challenge.rw_comesapart_k13_facings_counted.prog) (w := w) (base := base) T G_p_every_step G_p_followers
  have G_l_same := ok_l_same (P := PySem.Challenge.rw_comesapart_k13_facings_counted.prog) (w := w) (base := base) T
  have G_p_is_facing_v2 := ok_p_is_facing_v2 (P := PySem.Challenge.rw_comesapart_k13_facings_counted.prog) (w := w) (base := base) T G_p_every_step G_p_followers
  have G_p_steps_alike := ok_p_steps_alike (P := PySem.Challenge.rw_comesapart_k13_facings_counted.prog) (w := w) (base := base) T G_p_followers G_m_Web_back
  have G_p_facing := ok_p_facing (P := PySem.Challenge.rw_comesapart_k13_facings_counted.prog) (w := w) (base := base) T G_p_steps_alike G_p_is_facing
  have G_p_grouped := ok_p_grouped (P := PySem.Challenge.rw_comesapart_k13_facings_counted.prog) (w := w) (base := base) T
  have G_p_tie_groups := ok_p_tie_groups (P := PySem.Challenge.rw_comesapart_k13_facings_counted.prog) (w := w) (base := base) T G_p_every_step G_p_followers G_p_grouped
  have G_p_count_facings := ok_p_count_facings (P := PySem.Challenge.rw_comesapart_k13_facings_counted.prog) (w := w) (base := base) T G_p_facing G_p_tie_groups
  have G_l_right_groups := ok_l_right_groups (P := PySem.Challenge.rw_comesapart_k13_facings_counted.prog) (w := w) (base := base) T G_p_tie_groups G_l_same
  have G_l_right_web := ok_l_right_web (P := PySem.Challenge.rw_comesapart_k13_facings_counted.prog) (w := w) (base := base) T G_l_table G_l_labels G_l_forced G_l_lists G_l_keeps G_p_is_facing G_l_same G_p_is_facing_v2 G_p_count_facings G_l_right_groups
  have G_p_check_end_v2 := ok_p_check_end_v2 (P := PySem.Challenge.rw_comesapart_k13_facings_counted.prog) (w := w) (base := base) T (G_x_UnknownPlace base) (G_x_UnknownSide base)
  have G_m_WebX_initX_v2 := ok_m_WebX_initX_v2 (P := PySem.Challenge.rw_comesapart_k13_facings_counted.prog) (w := w) (base := base) T G_p_check_end_v2 (G_x_BadSides base) (G_x_TooLarge base)
  have G_m_Web_empty := ok_m_Web_empty (P := PySem.Challenge.rw_comesapart_k13_facings_counted.prog) (w := w) (base := base) T G_m_WebX_initX_v2
  have G_law := ok_law (P := PySem.Challenge.rw_comesapart_k13_facings_counted.prog) (w := w) (base := base) T G_l_cell G_l_draws G_l_pick G_l_web G_l_faced G_m_WebX_initX G_l_right_web G_m_Web_empty
  exact G_law
end K13

open PySem PySem.W PyProof.Rows
set_option maxRecDepth 100000 in
set_option maxHeartbeats 0 in
theorem PySem.Challenge.cw_comesapart_k13_facings_counted_holds : PySem.Challenge.rw_comesapart_k13_facings_counted.Holds := by
  w_on; o_law; k_head; (case hw => w_witness2)
  k_fill
  refine L2.walk_of (l := PySem.Challenge.rw_comesapart_k13_facings_counted) (n := 63) (k := 13) (x := "_law_script") (CX := fun _ => L2.CX0) (sp := fun w => K13.sp_law ⟨PySem.Challenge.rw_comesapart_k13_facings_counted.prog, w, _⟩) rfl (by decide) rfl ⟨rfl, by decide, by decide⟩ (fun w h Y => PySem.W.kIn_of Y) ?F (fun w _ a ns hl _ hS => ⟨⟨ns⟩, K13.law_plain ns hl, G.Fn.script hS⟩) (fun _ _ _ _ _ h => h)
  case F =>
    intro w mg fa h KX G hmg
    refine' K13.all_mk KX G hmg ?q0 ?q1 ?q2 ?q3 ?q4 ?q5 ?q6 ?q7 ?q8 ?q9 ?q10 ?q11 ?q12 ?q13 ?q14 ?q15 ?q16 ?q17 ?q18 ?q19 ?q20 ?q21 ?q22 ?q23 ?q24 ?q25 ?q26 ?q27 ?q28 ?q29 ?q30 ?q31 ?q32 ?q33 ?q34 ?q35 ?q36 ?q37 ?q38 ?q39 ?q40 ?q41 ?q42 ?q43 ?q44 ?q45 ?q46 ?q47 ?q48 ?q49 ?q50 ?q51 ?q52 ?q53 ?q54 ?q55 ?q56 ?q57 ?q58 ?q59 ?q60 ?q61 ?q62 ?q63 ?q64 ?q65 ?q66 ?q67 ?q68 ?q69 ?q70 ?q71 ?q72 ?q73 ?q74 ?q75 ?q76 ?q77 ?q78 ?q79 ?q80 ?q81 ?q82 ?q83 ?q84 ?q85 ?q86 ?q87 ?q88 ?q89 ?q90 ?q91 ?q92 ?q93 ?q94 ?q95 ?q96 ?q97 ?q98 ?q99 ?q100 ?q101 ?q102 ?q103 ?q104 ?q105 ?q106 ?q107 ?q108 ?q109 ?q110 ?q111 ?q112 ?q113 ?q114 ?q115 ?q116 ?q117 ?q118 ?q119 ?q120 ?q121 ?q122 ?q123 ?q124 ?q125 ?q126 ?q127 ?q128 ?q129 ?q130 ?q131 ?q132 ?q133 ?q134 ?q135 ?q136 ?q137 ?q138 ?q139 ?q140 ?q141 ?q142 ?q143 ?q144 ?q145 ?q146 ?q147 ?q148 ?q149 ?q150 ?q151 ?q152 ?q153 ?q154 ?q155 ?q156 ?q157 ?q158 ?q159 ?q160 ?q161 ?q162 ?q163 ?q164 ?q165 ?q166 ?q167 ?q168 ?q169 ?q170 ?q171 ?q172 ?q173 ?q174 ?q175 ?q176 ?q177 ?q178 ?q179 ?q180 ?q181 ?q182 ?q183 ?q184 ?q185 ?q186 ?q187 ?q188 ?q189 ?q190 ?q191 ?q192 ?q193 ?q194 ?q195 ?q196 ?q197 ?q198 ?q199 ?q200 ?q201 ?q202 ?q203 ?q204 ?q205 ?q206 ?q207 ?q208 ?q209 ?q210 ?q211 ?q212 ?q213 ?q214 ?q215 ?q216 ?q217 ?q218 ?q219 ?q220 ?q221 ?q222 ?q223 ?q224 ?q225 ?q226 ?q227 ?q228 ?q229 ?q230 ?q231 ?q232 ?q233 ?q234 ?q235 ?q236 ?q237 ?q238 ?q239 ?q240 ?q241 ?q242 ?q243 ?q244 ?q245 ?q246 ?q247 ?q248 ?q249 ?q250 ?q251 ?q252 ?q253 ?q254 ?q255 ?q256 ?q257 ?q258 ?q259 ?q260 ?q261 ?q262 ?q263 ?q264 ?q265 ?q266 ?q267 ?q268 ?q269 ?q270 ?q271
    (case q0 => k_is)
    (case q1 => k_is)
    (case q2 => k_is)
    (case q3 => k_is)
    (case q4 => k_is)
    (case q5 => k_is)
    (case q6 => k_is)
    (case q7 => k_is)
    (case q8 => k_is)
    (case q9 => k_is)
    (case q10 => k_is)
    (case q11 => k_is)
    (case q12 => k_is)
    (case q13 => k_is)
    (case q14 => k_is)
    (case q15 => k_is)
    (case q16 => k_is)
    (case q17 => k_is)
    (case q18 => k_is)
    (case q19 => k_is)
    (case q20 => k_is)
    (case q21 => k_is)
    (case q22 => k_is)
    (case q23 => k_is)
    (case q24 => k_is)
    (case q25 => k_is)
    (case q26 => k_is)
    (case q27 => k_is)
    (case q28 => k_is)
    (case q29 => k_is)
    (case q30 => k_is)
    (case q31 => k_is)
    (case q32 => k_is)
    (case q33 => k_is)
    (case q34 => k_is)
    (case q35 => k_is)
    (case q36 => k_is)
    (case q37 => k_is)
    (case q38 => k_is)
    (case q39 => k_is)
    (case q40 => k_is)
    (case q41 => k_is)
    (case q42 => k_is)
    (case q43 => k_is)
    (case q44 => k_is)
    (case q45 => k_is)
    (case q46 => k_is)
    (case q47 => k_is)
    (case q48 => k_is)
    (case q49 => k_is)
    (case q50 => k_is)
    (case q51 => k_is)
    (case q52 => k_is)
    (case q53 => k_is)
    (case q54 => k_is)
    (case q55 => k_is)
    (case q56 => k_is)
    (case q57 => k_is)
    (case q58 => k_is)
    (case q59 => k_is)
    (case q60 => k_is)
    (case q61 => k_is)
    (case q62 => k_is)
    (case q63 => k_is)
    (case q64 => k_is)
    (case q65 => k_is)
    (case q66 => k_is)
    (case q67 => k_is)
    (case q68 => k_is)
    (case q69 => k_is)
    (case q70 => k_is)
    (case q71 => k_is)
    (case q72 => k_is)
    (case q73 => k_is)
    (case q74 => k_is)
    (case q75 => k_is)
    (case q76 => k_is)
    (case q77 => k_is)
    (case q78 => k_is)
    (case q79 => k_is)
    (case q80 => k_is)
    (case q81 => k_is)
    (case q82 => k_is)
    (case q83 => k_is)
    (case q84 => k_is)
    (case q85 => k_is)
    (case q86 => k_is)
    (case q87 => k_is)
    (case q88 => k_is)
    (case q89 => k_is)
    (case q90 => k_is)
    (case q91 => k_is)
    (case q92 => k_is)
    (case q93 => k_is)
    (case q94 => k_is)
    (case q95 => k_is)
    (case q96 => k_is)
    (case q97 => k_is)
    (case q98 => k_is)
    (case q99 => k_is)
    (case q100 => k_is)
    (case q101 => k_is)
    (case q102 => k_is)
    (case q103 => k_is)
    (case q104 => k_is)
    (case q105 => k_is)
    (case q106 => k_is)
    (case q107 => k_is)
    (case q108 => k_is)
    (case q109 => k_is)
    (case q110 => k_is)
    (case q111 => k_is)
    (case q112 => k_is)
    (case q113 => k_is)
    (case q114 => k_is)
    (case q115 => k_is)
    (case q116 => k_is)
    (case q117 => k_is)
    (case q118 => k_is)
    (case q119 => k_is)
    (case q120 => k_is)
    (case q121 => k_is)
    (case q122 => k_is)
    (case q123 => k_is)
    (case q124 => k_is)
    (case q125 => k_is)
    (case q126 => k_is)
    (case q127 => k_is)
    (case q128 => k_is)
    (case q129 => k_is)
    (case q130 => k_is)
    (case q131 => k_is)
    (case q132 => k_is)
    (case q133 => k_is)
    (case q134 => k_is)
    (case q135 => k_is)
    (case q136 => k_is)
    (case q137 => k_is)
    (case q138 => k_is)
    (case q139 => k_is)
    (case q140 => k_is)
    (case q141 => k_is)
    (case q142 => k_is)
    (case q143 => k_is)
    (case q144 => k_is)
    (case q145 => k_is)
    (case q146 => k_is)
    (case q147 => k_is)
    (case q148 => k_is)
    (case q149 => k_is)
    (case q150 => k_is)
    (case q151 => k_is)
    (case q152 => k_is)
    (case q153 => k_is)
    (case q154 => k_is)
    (case q155 => k_is)
    (case q156 => k_is)
    (case q157 => k_is)
    (case q158 => k_is)
    (case q159 => k_is)
    (case q160 => k_is)
    (case q161 => k_is)
    (case q162 => k_is)
    (case q163 => decide +kernel)
    (case q164 => k_is)
    (case q165 => k_is)
    (case q166 => k_is)
    (case q167 => k_is)
    (case q168 => k_is)
    (case q169 => k_is)
    (case q170 => ks_is)
    (case q171 => k_is)
    (case q172 => k_is)
    (case q173 => k_is)
    (case q174 => k_is)
    (case q175 => k_is)
    (case q176 => k_is)
    (case q177 => k_is)
    (case q178 => rfl)
    (case q179 => decide +kernel)
    (case q180 => k_is)
    (case q181 => k_is)
    (case q182 => decide +kernel)
    (case q183 => k_is)
    (case q184 => k_is)
    (case q185 => k_is)
    (case q186 => k_is)
    (case q187 => k_is)
    (case q188 => k_is)
    (case q189 => ks_is)
    (case q190 => k_is)
    (case q191 => k_is)
    (case q192 => k_is)
    (case q193 => k_is)
    (case q194 => k_is)
    (case q195 => k_is)
    (case q196 => k_is)
    (case q197 => rfl)
    (case q198 => decide +kernel)
    (case q199 => k_is)
    (case q200 => k_is)
    (case q201 => decide +kernel)
    (case q202 => k_is)
    (case q203 => k_is)
    (case q204 => k_is)
    (case q205 => k_is)
    (case q206 => k_is)
    (case q207 => k_is)
    (case q208 => ks_is)
    (case q209 => k_is)
    (case q210 => k_is)
    (case q211 => k_is)
    (case q212 => k_is)
    (case q213 => k_is)
    (case q214 => k_is)
    (case q215 => k_is)
    (case q216 => rfl)
    (case q217 => decide +kernel)
    (case q218 => k_is)
    (case q219 => k_is)
    (case q220 => decide +kernel)
    (case q221 => k_is)
    (case q222 => k_is)
    (case q223 => k_is)
    (case q224 => k_is)
    (case q225 => k_is)
    (case q226 => k_is)
    (case q227 => ks_is)
    (case q228 => k_is)
    (case q229 => k_is)
    (case q230 => k_is)
    (case q231 => k_is)
    (case q232 => k_is)
    (case q233 => k_is)
    (case q234 => k_is)
    (case q235 => rfl)
    (case q236 => decide +kernel)
    (case q237 => k_is)
    (case q238 => k_is)
    (case q239 => k_is)
    (case q240 => decide +kernel)
    (case q241 => k_is)
    (case q242 => k_is)
    (case q243 => k_is)
    (case q244 => k_is)
    (case q245 => k_is)
    (case q246 => k_is)
    (case q247 => ks_is)
    (case q248 => k_is)
    (case q249 => k_is)
    (case q250 => k_is)
    (case q251 => k_is)
    (case q252 => k_is)
    (case q253 => k_is)
    (case q254 => k_is)
    (case q255 => rfl)
    (case q256 => decide +kernel)
    (case q257 => k_is)
    (case q258 => k_is)
    (case q259 => k_is)
    (case q260 => k_is)
    (case q261 => k_is)
    (case q262 => k_is)
    (case q263 => k_is)
    (case q264 => k_is)
    (case q265 => k_is)
    (case q266 => k_is)
    (case q267 => k_is)
    (case q268 => k_is)
    (case q269 => k_is)
    (case q270 => k_is)
    (case q271 => k_is)

