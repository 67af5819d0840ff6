import PyProof.Rows.All
import Wide.All
import OpenK.AllK
import Wide.FinOn
import HandS.ForMost
import HandS.DictComp
import HandS.Strs
import HandS.IsInst
import HandS.SortInts
import HandS.Wide
import HandS.Conv
import PySem.Challenge.RW_comesapart_k36_odd_pieces_and_bars
set_option Elab.async false
set_option linter.all false
set_option maxRecDepth 100000
section
set_option maxHeartbeats 4000000
/-! G0: rules that the layer lacks: a name takes a dict comprehension. -/
namespace L2
open PySem PySem.Spec PyProof.Rows
section
variable {X : Cx}
/-- name = {k: v for ..} on one line, the name a local -/
theorem ps_setDc {i : Nat} {y : Str} {py : Pos} {kx vx tg iter : Expr} {ifs : List Expr} {scope : Scope} {own : List (Str × Nat)} {pos spos : Pos} {wi : TI} {g : TG} {tt : TT} {tk tv : TE} (hc : X.calm = true) (hN : X.N.Nodup) (hy : X.N[i]? = some y) (hyl : X.env.scope.names.lookup y = some .local)
    (hsw : swapsWith (.DictComp kx vx [⟨tg, iter, ifs, 0⟩] scope pos) (some (.Name y py)) spos.line X.env = pure true) (hi : PI X tg iter wi) (ok : BlkOk X.N X.env.scope scope own)
    (hg : ∀ (s : Shared) (H : Hp) (C : Addr) (cl : List (Str × Addr)) (fp : List Addr), PG (X.blk s H scope (compEnvC scope cl C X.env) fp) tg g)
    (ht : ∀ (s : Shared) (H : Hp) (C : Addr) (cl : List (Str × Addr)) (fp : List Addr), PTs (X.blk s H scope (compEnvC scope cl C X.env) fp) ifs tt)
    (hk : ∀ (s : Shared) (H : Hp) (C : Addr) (cl : List (Str × Addr)) (fp : List Addr), PE (X.blk s H scope (compEnvC scope cl C X.env) fp) kx tk)
    (he : ∀ (s : Shared) (H : Hp) (C : Addr) (cl : List (Str × Addr)) (fp : List Addr), PE (X.blk s H scope (compEnvC scope cl C X.env) fp) vx tv) (hs : ∀ x, foldedSetIterable iter X.env x = pure x := by intro _; rfl) :
    PS X (.Assign [.Name y py] (.DictComp kx vx [⟨tg, iter, ifs, 0⟩] scope pos) spos) (tAsg (tDc wi g tt tk tv (own.map (·.2))) (gName i)) := by
  refine ⟨fun pins s σ H D I h => ?_⟩
  rw [exec_Assign_Name_used _ _ _ _ hsw]
  refine wpAny_bind (wpAny_standAt (wpAny_bind ?_))
  show wpAny _ X.A (do let _ ← comprehension (.DictComp kx vx [⟨tg, iter, ifs, 0⟩] scope pos) scope X.env (firstIterPos [⟨tg, iter, ifs, 0⟩] pos) newDict false (eval iter X.env) (some (assign (.Name y py) X.env))) _ _ s
  have h1 : tDc wi g tt tk tv (own.map (·.2)) σ H (fun x H1 => gName i x σ H1 D.nx) := h
  refine wpAny_bind (thn (dc_core (Qf := fun _ s' => SP X pins D .next s') hc hN I hi ok hg ht hk he hs h1 fun L C s' m H' I' q hn f => ?_) fun _ s' hq => wpAny_pure (wpAny_pure hq))
  show wpAny _ _ (assign (.Name y py) X.env (.ref L)) _ _ _
  refine wpAny_assign_Name (store_ok2 (v := V.ref L) I' hN hy (.inl hyl) rfl (fun s2 I2 ⟨a, sb, ha⟩ => ?_) (.inr hyl))
  have haC : C ≠ a := ha.elim (fun z => by rw [z]; exact f.2.1) fun z e => f.2.2.2.2.1 y a z e.symm
  exact ⟨m, hn.sameBut sb haC, fun h3 sb3 => ⟨_, H', I2.turned (t' := s2.toks) (fun b o hb e => (sb3.2 b hb).trans e) f.1 f.2.1 f.2.2.2.1 f.2.2.2.2.1 f.2.2.2.2.2, q⟩⟩
theorem sw_trueD {kx vx : Expr} {gs : List Comprehension} {scope : Scope} {pos py : Pos} {y : Str} {l : Nat} {env : Env} (hk : env.scope.kind = .function) (hy : env.scope.names.lookup y = some .local) (hl : (py.line == pos.line) = true)
    (ha : (scope.names.any fun (n, k) => n == y && (k == .local || k == .cell)) = false) : swapsWith (.DictComp kx vx gs scope pos) (some (.Name y py)) l env = pure true := by
  have hb : env.blockKind = .function := by unfold Env.blockKind; rw [hk]; rfl
  have ky : env.kindOf y = some .local := hy
  unfold swapsWith
  simp only [hb, ky, ha, Expr.pos, hl]
  rfl

/-! the same rules over a written part that bears a name (K, w): within a comprehension's block the context is another, K and w are not -/
section
variable (K : PySem.W.Frag) (w : World)
theorem op_inK (h : X.K = K := by rfl) : OpR X (compareOp .In) (rIn K false) := h ▸ op_in_seq
theorem op_niK (h : X.K = K := by rfl) : OpR X (compareOp .NotIn) (rIn K true) := h ▸ op_notIn_seq
theorem ix_lK (h : X.K = K := by rfl) : IxR X (rIxL K) := h ▸ ix_list
theorem ix_tK (h : X.K = K := by rfl) : IxR X (rIxT K) := h ▸ ix_tup
theorem ix_qK (h : X.K = K := by rfl) : IxR X (rIx K) := h ▸ ix_seq
theorem sl_lK (h : X.K = K := by rfl) : SlR X (rSlL K) := h ▸ sl_list
theorem sl_tK (h : X.K = K := by rfl) : SlR X (rSlT K) := h ▸ sl_tup
theorem len_K (h : X.K = K := by rfl) : CallR X (.builtin "len") (fun xs H Q => ∃ p ys, xs = [.ref p] ∧ (SqL K H p ys ∨ SqT K H p ys) ∧ Q (.int ys.length) H) := h ▸ call_len_seq
theorem list_K (h : X.K = K := by rfl) : CallR X (.type "list") (fun xs H Q => ∃ p ys, xs = [.ref p] ∧ (SqL K H p ys ∨ SqT K H p ys) ∧ ∀ l, H l = none → Q (.ref l) (upd H l (.lst ys))) := h ▸ call_list_of
theorem tuple_K (h : X.K = K := by rfl) : CallR X (.type "tuple") (fun xs H Q => ∃ p ys, xs = [.ref p] ∧ ((SqL K H p ys ∧ ∀ l, H l = none → Q (.ref l) (upd H l (.tup ys))) ∨ (SqT K H p ys ∧ Q (.ref p) H))) := h ▸ call_tuple_of
theorem sortedI_K (h : X.K = K := by rfl) : CallR X (.builtin "sorted") (rSortedI K) := h ▸ cr_sortedI
theorem sum_K (hc : X.calm = true) (h : X.K = K := by rfl) : CallR X (.builtin "sum") (rSum K) := h ▸ cr_sum hc
theorem max_K (hc : X.calm = true) (h : X.K = K := by rfl) : CallR X (.builtin "max") (rMax K) := h ▸ cr_max hc
theorem min_K (hc : X.calm = true) (h : X.K = K := by rfl) : CallR X (.builtin "min") (rMin K) := h ▸ cr_min hc
theorem any_K (hc : X.calm = true) (h : X.K = K := by rfl) : CallR X (.builtin "any") (rAny K) := h ▸ cr_any hc
theorem all_K (hc : X.calm = true) (h : X.K = K := by rfl) : CallR X (.builtin "all") (rAll K) := h ▸ cr_all hc
theorem op_eqDK (hu : X.A.units + 64 < cLine) (h : X.K = K := by rfl) : OpR X (compareOp .Eq) (rEqD K) := h ▸ op_eqD hu
theorem op_neDK (hu : X.A.units + 64 < cLine) (h : X.K = K := by rfl) : OpR X (compareOp .NotEq) (rNeD K) := h ▸ op_neD hu
theorem isi_K (h : X.K = K := by rfl) : CallR X (.builtin "isinstance") (rIsi K) := h ▸ call_isi
theorem sin_w (h : X.w = w := by rfl) : OpR X (compareOp .In) (rSIn w) := h ▸ or_sin
theorem snotin_w (h : X.w = w := by rfl) : OpR X (compareOp .NotIn) (rSNotIn w) := h ▸ or_snotin
theorem set0_w (h : X.w = w := by rfl) : CallR X (.type "set") (rSet0 w) := h ▸ cr_set0
theorem pi_lK {tg l : Expr} {tl : TE} (hl : PE X l tl) (h : X.K = K := by rfl) : PI X tg l (iList K tl) := h ▸ pi_list hl
theorem pi_tK {tg l : Expr} {tl : TE} (hl : PE X l tl) (h : X.K = K := by rfl) : PI X tg l (iTup K tl) := h ▸ pi_tup hl
theorem truth_K {a : Expr} {ta : TE} (ha : PE X a ta) (he : ∀ whole, isTrue a X.env whole = (do let v ← whole; standAt a.pos; holding [v] (truthy v))) (h : X.K = K := by rfl) :
    PT X a (fun σ H Q => ta σ H fun x H' => ∃ k, TruV K x H' k ∧ Q k H') := h ▸ pt_truth ha he
theorem bm0_K {o : Expr} {to : TE} {name : Str} {apos cpos : Pos} {T id : String} {r : V → List V → Hp → VK → Prop} (pa : PlainAttrs T) (slot : Slot T name id) (hty : typeOf (.builtin id) = pure (.type "method_descriptor")) (hm : MtR X id r) (ho : PE X o to)
    (hbase : attributeBase o name X.env (eval o X.env) = eval o X.env := by rfl) (hline : (apos.endLine == cpos.line) = true := by rfl) (h : X.K = K := by rfl) : PE X (.Call (.Attribute o name apos) [] [] cpos) (tBM0 K T r to) := h ▸ pe_bm0 pa slot hty hm ho hbase hline
theorem bm_K {o e : Expr} {es : List Expr} {to : TE} {t : TA} {name : Str} {apos cpos : Pos} {T id : String} {r : V → List V → Hp → VK → Prop} (pa : PlainAttrs T) (slot : Slot T name id) (hty : typeOf (.builtin id) = pure (.type "method_descriptor")) (hm : MtR X id r) (ho : PE X o to) (ha : PA X (e :: es) t)
    (hbase : attributeBase o name X.env (eval o X.env) = eval o X.env := by rfl)
    (hfew : ((backTo cpos (starEach (e :: es) X.env)).all (fun x => !x.1) && (backToKw cpos (keywordEach [] X.env)).all (fun x => x.1.isSome)
      && decide ((e :: es).length + ([] : List Keyword).length + (if ([] : List Keyword).isEmpty then 0 else 1) < 30)) = true := by rfl)
    (hline : (apos.endLine == cpos.line) = true := by rfl) (hs : starEach (e :: es) X.env = (false, eval e X.env) :: starEach es X.env := by rfl) (hplain : (backTo cpos (starEach es X.env)).any (·.1) = false := by rfl) (h : X.K = K := by rfl) :
    PE X (.Call (.Attribute o name apos) (e :: es) [] cpos) (tBM K T r to t) := h ▸ pe_bm pa slot hty hm ho ha hbase hfew hline hs hplain
theorem sadd_w {o e : Expr} {es : List Expr} {to : TE} {t : TA} {apos cpos : Pos} (ho : PE X o to) (ha : PA X (e :: es) t)
    (hbase : attributeBase o "add" X.env (eval o X.env) = eval o X.env := by rfl)
    (hfew : ((backTo cpos (starEach (e :: es) X.env)).all (fun x => !x.1) && (backToKw cpos (keywordEach [] X.env)).all (fun x => x.1.isSome)
      && decide ((e :: es).length + ([] : List Keyword).length + (if ([] : List Keyword).isEmpty then 0 else 1) < 30)) = true := by rfl)
    (hline : (apos.endLine == cpos.line) = true := by rfl) (hs : starEach (e :: es) X.env = (false, eval e X.env) :: starEach es X.env := by rfl) (hplain : (backTo cpos (starEach es X.env)).any (·.1) = false := by rfl) (h : X.w = w := by rfl) :
    PE X (.Call (.Attribute o "add" apos) (e :: es) [] cpos) (tSAdd w to t) := h ▸ pe_sadd ho ha hbase hfew hline hs hplain
end
end
end L2
end

/-! G1: value environments over the hand layer. F: the frozen view of the heap (read only from now on), L: what is owned (may still be written). -/
namespace G
open PySem L2

structure GCtx where
  P : Program
  w : World
  K : PySem.W.Frag

abbrev LO := List (Addr × HO)

structure En where
  F0 : Hp
  H0 : Hp
  M : List Addr

structure Wk (e : En) (F : Hp) (L : LO) (H : Hp) : Prop where
  ff : Same e.F0 F
  hh : ∀ a o, a ∉ e.M → e.H0 a = some o → H a = some o
  th : ∀ a, e.H0 a ≠ none → H a ≠ none
  fh : Same F H
  nw : ∀ a, e.H0 a ≠ none → e.F0 a = none → F a = none
  tp : ∀ a xs, H a = some (.tup xs) → F a = some (.tup xs)
  ow : ∀ p ∈ L, F p.1 = none ∧ H p.1 = some p.2 ∧ (e.H0 p.1 = none ∨ p.1 ∈ e.M)
  nd : (L.map Prod.fst).Nodup

/-- the heap has grown, nothing that stood has changed -/
abbrev Gr (F H F' H' : Hp) : Prop := Wk ⟨F, H, []⟩ F' [] H'

theorem ne_some {α : Type} {x : Option α} {y : α} (h : x = some y) : x ≠ none := fun z => by rw [z] at h; cases h

theorem Wk.base {e : En} {F : Hp} {L : LO} {H : Hp} (k : Wk e F L H) : Gr F H F H :=
  ⟨Same.refl _, fun _ _ _ h => h, fun _ h => h, k.fh, fun _ _ h => h, k.tp, fun _ h => (nomatch h), List.nodup_nil⟩

theorem Wk.trans {e : En} {F F' : Hp} {L L' : LO} {H H' : Hp} (a : Wk e F L H) (b : Wk ⟨F, H, []⟩ F' L' H') : Wk e F' (L' ++ L) H' where
  ff := a.ff.trans b.ff
  hh := fun x o hx h => b.hh x o (fun z => nomatch z) (a.hh x o hx h)
  th := fun x h => b.th x (a.th x h)
  fh := b.fh
  nw := fun x h h' => b.nw x (a.th x h) (a.nw x h h')
  tp := b.tp
  ow := fun p hp => by
    rcases List.mem_append.mp hp with hp | hp
    · obtain ⟨h1, h2, h3⟩ := b.ow p hp
      refine ⟨h1, h2, .inl ?_⟩
      rcases h3 with h3 | h3
      · cases q : e.H0 p.1 with
        | none => rfl
        | some o => exact absurd h3 (a.th p.1 (ne_some q))
      · exact nomatch h3
    · obtain ⟨h1, h2, h3⟩ := a.ow p hp
      exact ⟨b.nw p.1 (ne_some h2) h1, b.hh p.1 p.2 (fun z => nomatch z) h2, h3⟩
  nd := by
    rw [List.map_append]
    refine List.nodup_append.mpr ⟨b.nd, a.nd, fun x hx y hy z => ?_⟩
    obtain ⟨p, hp, rfl⟩ := List.mem_map.mp hx
    obtain ⟨q, hq, rfl⟩ := List.mem_map.mp hy
    obtain ⟨_, _, h3⟩ := b.ow p hp
    obtain ⟨_, h2, _⟩ := a.ow q hq
    rcases h3 with h3 | h3
    · have h4 : H q.1 = none := (show p.1 = q.1 from z) ▸ (show H p.1 = none from h3)
      rw [h2] at h4
      cases h4
    · exact nomatch h3

theorem Wk.trans0 {e : En} {F F' : Hp} {L : LO} {H H' : Hp} (a : Wk e F L H) (b : Gr F H F' H') : Wk e F' L H' := a.trans b

/-- a part of what is owned may be forgotten; the order is nothing -/
theorem Wk.sub {e : En} {F : Hp} {L L' : LO} {H : Hp} (a : Wk e F L H) (hs : ∀ p ∈ L', p ∈ L) (hn : (L'.map Prod.fst).Nodup) : Wk e F L' H :=
  ⟨a.ff, a.hh, a.th, a.fh, a.nw, a.tp, fun p hp => a.ow p (hs p hp), hn⟩

theorem nodup_part {L1 Li L2 : LO} (h : ((L1 ++ Li ++ L2).map Prod.fst).Nodup) : ((L1 ++ L2).map Prod.fst).Nodup := by
  simp only [List.map_append] at h ⊢
  have h1 := List.nodup_append.mp h
  have h2 := List.nodup_append.mp h1.1
  exact List.nodup_append.mpr ⟨h2.1, h1.2.1, fun x hx y hy => h1.2.2 x (List.mem_append_left _ hx) y hy⟩
theorem Wk.drop {e : En} {F : Hp} {L1 Li L2 : LO} {H : Hp} (a : Wk e F (L1 ++ Li ++ L2) H) : Wk e F (L1 ++ L2) H :=
  a.sub (fun p hp => by
    rcases List.mem_append.mp hp with h | h
    · exact List.mem_append_left _ (List.mem_append_left _ h)
    · exact List.mem_append_right _ h) (nodup_part a.nd)
theorem nodup_mid {L1 Li L2 : LO} (h : ((L1 ++ Li ++ L2).map Prod.fst).Nodup) : ((Li ++ (L1 ++ L2)).map Prod.fst).Nodup := by
  simp only [List.map_append] at h ⊢
  refine (List.Perm.nodup_iff ?_).mp h
  rw [← List.append_assoc]
  exact List.Perm.append_right _ List.perm_append_comm
theorem nodup_back {L1 Li L2 : LO} (h : ((Li ++ (L1 ++ L2)).map Prod.fst).Nodup) : ((L1 ++ Li ++ L2).map Prod.fst).Nodup := by
  simp only [List.map_append] at h ⊢
  refine (List.Perm.nodup_iff ?_).mp h
  rw [← List.append_assoc]
  exact List.Perm.append_right _ List.perm_append_comm
theorem Wk.front {e : En} {F : Hp} {L1 Li L2 : LO} {H : Hp} (a : Wk e F (L1 ++ Li ++ L2) H) : Wk e F (Li ++ (L1 ++ L2)) H :=
  a.sub (fun p hp => by simp only [List.mem_append] at hp ⊢; rcases hp with h | h | h <;> simp [h]) (nodup_mid a.nd)
theorem Wk.back {e : En} {F : Hp} {L1 Li L2 : LO} {H : Hp} (a : Wk e F (Li ++ (L1 ++ L2)) H) : Wk e F (L1 ++ Li ++ L2) H :=
  a.sub (fun p hp => by simp only [List.mem_append] at hp ⊢; rcases hp with (h | h) | h <;> simp [h]) (nodup_back a.nd)

/-- a new object, owned -/
theorem Wk.own {e : En} {F : Hp} {L : LO} {H : Hp} {p : Addr} {o : HO} (a : Wk e F L H) (hp : H p = none) (ht : ∀ xs, o ≠ .tup xs) : Wk e F ((p, o) :: L) (upd H p o) where
  ff := a.ff
  hh := fun x u hx h => by rw [upd_ne (ne_of_none (a.hh x u hx h) hp)]; exact a.hh x u hx h
  th := fun x h => by
    by_cases hx : x = p
    · subst hx; rw [upd_same]; exact fun z => nomatch z
    · rw [upd_ne hx]; exact a.th x h
  fh := fun x u h => by rw [upd_ne (ne_of_none (a.fh x u h) hp)]; exact a.fh x u h
  nw := a.nw
  tp := fun x xs h => by
    by_cases hx : x = p
    · subst hx; rw [upd_same] at h; exact absurd (Option.some.inj h) (ht xs)
    · rw [upd_ne hx] at h; exact a.tp x xs h
  ow := fun q hq => by
    rcases List.mem_cons.mp hq with rfl | hq
    · refine ⟨Same.free a.fh hp, upd_same, .inl ?_⟩
      cases z : e.H0 p with
      | none => rfl
      | some u => exact absurd hp (a.th p (ne_some z))
    · obtain ⟨h1, h2, h3⟩ := a.ow q hq
      exact ⟨h1, by rw [upd_ne (ne_of_none h2 hp)]; exact h2, h3⟩
  nd := by
    refine List.nodup_cons.mpr ⟨fun z => ?_, a.nd⟩
    obtain ⟨q, hq, e1⟩ := List.mem_map.mp z
    obtain ⟨_, h2, _⟩ := a.ow q hq
    rw [show q.1 = p from e1, hp] at h2
    cases h2

/-- what is owned is frozen -/
theorem Wk.freeze1 {e : En} {F : Hp} {L : LO} {H : Hp} {p : Addr} {o : HO} (a : Wk e F ((p, o) :: L) H) (hm : p ∉ e.M) : Wk e (upd F p o) L H where
  ff := fun x u h => by
    have h1 := (a.ow (p, o) List.mem_cons_self).1
    rw [upd_ne (ne_of_none (a.ff x u h) h1)]
    exact a.ff x u h
  hh := a.hh
  th := a.th
  fh := fun x u h => by
    by_cases hx : x = p
    · subst hx; rw [upd_same] at h; cases h
      exact (a.ow (x, o) List.mem_cons_self).2.1
    · rw [upd_ne hx] at h; exact a.fh x u h
  nw := fun x h h' => by
    have hx : x ≠ p := fun z => by
      subst z
      rcases (a.ow (x, o) List.mem_cons_self).2.2 with z | z
      · exact h z
      · exact hm z
    rw [upd_ne hx]; exact a.nw x h h'
  tp := fun x xs h => by
    by_cases hx : x = p
    · subst hx
      have h2 := (a.ow (x, o) List.mem_cons_self).2.1
      rw [upd_same, ← h2, h]
    · rw [upd_ne hx]; exact a.tp x xs h
  ow := fun q hq => by
    obtain ⟨h1, h2, h3⟩ := a.ow q (List.mem_cons_of_mem _ hq)
    have hx : q.1 ≠ p := fun z => (List.nodup_cons.mp a.nd).1 (List.mem_map.mpr ⟨q, hq, z⟩)
    exact ⟨by rw [upd_ne hx]; exact h1, h2, h3⟩
  nd := (List.nodup_cons.mp a.nd).2
/-- the owned L joins F -/
def plus (F : Hp) : LO → Hp
  | [] => F
  | p :: L => plus (upd F p.1 p.2) L
theorem Wk.freeze : ∀ {Li L : LO} {e : En} {F : Hp} {H : Hp}, Wk e F (Li ++ L) H → (∀ p ∈ Li, p.1 ∉ e.M) → Wk e (plus F Li) L H
  | [], _, _, _, _, a, _ => a
  | p :: Li, L, e, F, H, a, hm => Wk.freeze (Li := Li) (Wk.freeze1 (p := p.1) (o := p.2) a (hm p List.mem_cons_self)) fun q hq => hm q (List.mem_cons_of_mem _ hq)
theorem same_plus : ∀ {Li : LO} {F : Hp}, (∀ p ∈ Li, F p.1 = none) → (Li.map Prod.fst).Nodup → Same F (plus F Li)
  | [], F, _, _ => Same.refl F
  | p :: Li, F, h, hn => by
    have h1 : Same F (upd F p.1 p.2) := fun x u e => by rw [upd_ne (ne_of_none e (h p List.mem_cons_self))]; exact e
    refine h1.trans (same_plus (fun q hq => ?_) (List.nodup_cons.mp hn).2)
    have hx : q.1 ≠ p.1 := fun z => (List.nodup_cons.mp hn).1 (List.mem_map.mpr ⟨q, hq, z⟩)
    rw [upd_ne hx]
    exact h q (List.mem_cons_of_mem _ hq)
theorem plus_get : ∀ {Li : LO} {F : Hp}, (∀ p ∈ Li, F p.1 = none) → (Li.map Prod.fst).Nodup → ∀ p ∈ Li, plus F Li p.1 = some p.2
  | [], _, _, _, _, hq => nomatch hq
  | p :: Li, F, h, hn, q, hq => by
    have hb : ∀ r ∈ Li, upd F p.1 p.2 r.1 = none := fun r hr => by
      have hx : r.1 ≠ p.1 := fun z => (List.nodup_cons.mp hn).1 (List.mem_map.mpr ⟨r, hr, z⟩)
      rw [upd_ne hx]
      exact h r (List.mem_cons_of_mem _ hr)
    rcases List.mem_cons.mp hq with rfl | hq
    · exact same_plus hb (List.nodup_cons.mp hn).2 q.1 q.2 upd_same
    · exact plus_get (Li := Li) hb (List.nodup_cons.mp hn).2 q hq

/-- a new object, frozen at once -/
theorem Wk.lay {e : En} {F : Hp} {L : LO} {H : Hp} {p : Addr} {o : HO} (a : Wk e F L H) (hp : H p = none) : Wk e (upd F p o) L (upd H p o) where
  ff := fun x u h => by rw [upd_ne (ne_of_none (a.ff x u h) (Same.free a.fh hp))]; exact a.ff x u h
  hh := fun x u hx h => by rw [upd_ne (ne_of_none (a.hh x u hx h) hp)]; exact a.hh x u hx h
  th := fun x h => by
    by_cases hx : x = p
    · subst hx; rw [upd_same]; exact fun z => nomatch z
    · rw [upd_ne hx]; exact a.th x h
  fh := fun x u h => by
    by_cases hx : x = p
    · subst hx; rw [upd_same] at h ⊢; exact h
    · rw [upd_ne hx] at h ⊢; exact a.fh x u h
  nw := fun x h h' => by
    have hx : x ≠ p := fun z => by subst z; exact a.th x h hp
    rw [upd_ne hx]; exact a.nw x h h'
  tp := fun x xs h => by
    by_cases hx : x = p
    · subst hx; rw [upd_same] at h ⊢; exact h
    · rw [upd_ne hx] at h ⊢; exact a.tp x xs h
  ow := fun q hq => by
    obtain ⟨h1, h2, h3⟩ := a.ow q hq
    have hx : q.1 ≠ p := ne_of_none h2 hp
    exact ⟨by rw [upd_ne hx]; exact h1, by rw [upd_ne hx]; exact h2, h3⟩
  nd := a.nd
/-- an owned object is written -/
theorem Wk.put {e : En} {F : Hp} {L : LO} {H : Hp} {p : Addr} {o o' : HO} (a : Wk e F ((p, o) :: L) H) (ht : ∀ xs, o' ≠ .tup xs) : Wk e F ((p, o') :: L) (upd H p o') where
  ff := a.ff
  hh := fun x u hx h => by
    have hp : x ≠ p := fun z => by
      subst z
      rcases (a.ow (x, o) List.mem_cons_self).2.2 with z | z
      · rw [show e.H0 x = none from z] at h; cases h
      · exact hx z
    rw [upd_ne hp]; exact a.hh x u hx h
  th := fun x h => by
    by_cases hx : x = p
    · subst hx; rw [upd_same]; exact fun z => nomatch z
    · rw [upd_ne hx]; exact a.th x h
  fh := fun x u h => by
    rw [upd_ne (ne_of_none h (a.ow (p, o) List.mem_cons_self).1)]; exact a.fh x u h
  nw := a.nw
  tp := fun x xs h => by
    by_cases hx : x = p
    · subst hx; rw [upd_same] at h; exact absurd (Option.some.inj h) (ht xs)
    · rw [upd_ne hx] at h; exact a.tp x xs h
  ow := fun q hq => by
    rcases List.mem_cons.mp hq with rfl | hq
    · obtain ⟨h1, _, h3⟩ := a.ow (p, o) List.mem_cons_self
      exact ⟨h1, upd_same, h3⟩
    · obtain ⟨h1, h2, h3⟩ := a.ow q (List.mem_cons_of_mem _ hq)
      have hx : q.1 ≠ p := fun z => (List.nodup_cons.mp a.nd).1 (List.mem_map.mpr ⟨q, hq, z⟩)
      exact ⟨h1, by rw [upd_ne hx]; exact h2, h3⟩
  nd := by
    have h := a.nd
    exact h

/-! ### data -/
class Dat (α : Type) where
  rep : GCtx → Hp → V → α → Prop
  mono : ∀ {C : GCtx} {F F' : Hp} {v : V} {x : α}, Same F F' → rep C F v x → rep C F' v x
/-- data that may be owned: L is its footprint -/
class OD (α : Type) [d : Dat α] where
  orep : GCtx → Hp → V → α → LO → Prop
  omono : ∀ {C : GCtx} {F F' : Hp} {v : V} {x : α} {L : LO}, Same F F' → orep C F v x L → orep C F' v x L
  view : ∀ {C : GCtx} {F H : Hp} {v : V} {x : α} {L : LO}, orep C F v x L → Same F H → (∀ p ∈ L, H p.1 = some p.2) → d.rep C H v x
/-- data that no store can change -/
class Imm (α : Type) [d : Dat α] : Prop where
  imm : ∀ {C : GCtx} {F H : Hp} {v : V} {x : α}, (∀ a xs, H a = some (.tup xs) → F a = some (.tup xs)) → d.rep C H v x → d.rep C F v x

inductive Cell : Type 1 where
  | no : Cell
  | val {α : Type} (d : Dat α) (x : α) : Cell
  | own {α : Type} (d : Dat α) (od : OD α) (pin : Option V) (x : α) : Cell
abbrev cv {α : Type} [d : Dat α] (x : α) : Cell := .val d x
abbrev co {α : Type} [d : Dat α] [od : OD α] (x : α) : Cell := .own d od none x
abbrev cp {α : Type} [d : Dat α] [od : OD α] (v : V) (x : α) : Cell := .own d od (some v) x

def CellOk (C : GCtx) (F : Hp) (o : Option V) : Cell → LO → Prop
  | .no, L => L = []
  | .val d x, L => L = [] ∧ ∃ v, o = some v ∧ d.rep C F v x
  | .own _ od pin x, L => ∃ v, o = some v ∧ (∀ u, pin = some u → v = u) ∧ od.orep C F v x L
theorem CellOk.mono {C : GCtx} {F F' : Hp} {o : Option V} : ∀ {c : Cell} {L : LO}, Same F F' → CellOk C F o c L → CellOk C F' o c L
  | .no, _, _, h => h
  | .val d x, _, s, ⟨h, v, e, r⟩ => ⟨h, v, e, d.mono s r⟩
  | .own _ od pin x, _, s, ⟨v, e, p, r⟩ => ⟨v, e, p, od.omono s r⟩

inductive Slots (C : GCtx) (F : Hp) : St → List Cell → LO → Prop where
  | nil : Slots C F [] [] []
  | cons {o : Option V} {c : Cell} {L L' : LO} {σ : St} {Γ : List Cell} (h : CellOk C F o c L) (r : Slots C F σ Γ L') : Slots C F (o :: σ) (c :: Γ) (L ++ L')
theorem Slots.mono {C : GCtx} {F F' : Hp} {σ : St} {Γ : List Cell} {L : LO} (s : Same F F') (h : Slots C F σ Γ L) : Slots C F' σ Γ L := by
  induction h with
  | nil => exact .nil
  | cons h _ ih => exact .cons (h.mono s) ih
theorem Slots.len {C : GCtx} {F : Hp} {σ : St} {Γ : List Cell} {L : LO} (h : Slots C F σ Γ L) : σ.length = Γ.length := by
  induction h with
  | nil => rfl
  | cons h _ ih => simp [ih]
theorem Slots.get {C : GCtx} {F : Hp} {σ : St} {Γ : List Cell} {L : LO} (h : Slots C F σ Γ L) : ∀ {i : Nat} {c : Cell}, Γ[i]? = some c →
    ∃ o L1 Li L2, σ[i]? = some o ∧ L = L1 ++ Li ++ L2 ∧ CellOk C F o c Li ∧ ∀ F' o' c' Li', Same F F' → CellOk C F' o' c' Li' → Slots C F' (σ.set i o') (Γ.set i c') (L1 ++ Li' ++ L2) := by
  induction h with
  | nil => intro i c h; cases i <;> cases h
  | @cons o c0 L L' σ Γ h r ih =>
    intro i c hi
    cases i with
    | zero =>
      cases (Option.some.inj hi : c0 = c)
      exact ⟨o, [], L, L', rfl, rfl, h, fun F' o' c' Li' s h' => .cons h' (r.mono s)⟩
    | succ i =>
      obtain ⟨o1, L1, Li, L2, e1, e2, h1, f⟩ := ih (i := i) (c := c) hi
      refine ⟨o1, L ++ L1, Li, L2, e1, by rw [e2]; simp [List.append_assoc], h1, fun F' o' c' Li' s h' => ?_⟩
      have q := Slots.cons (h.mono s) (f F' o' c' Li' s h')
      simpa [List.append_assoc] using q
theorem Slots.take {C : GCtx} {F : Hp} {σ : St} {Γ : List Cell} {L : LO} (h : Slots C F σ Γ L) (n : Nat) : ∃ L1, Slots C F (σ.take n) (Γ.take n) L1 ∧ L1.Sublist L := by
  induction h generalizing n with
  | nil => exact ⟨[], by simpa using Slots.nil, List.Sublist.refl _⟩
  | @cons o c0 L L' σ Γ h r ih =>
    cases n with
    | zero => exact ⟨[], by simpa using Slots.nil, List.nil_sublist _⟩
    | succ n =>
      obtain ⟨L1, q, s⟩ := ih n
      exact ⟨L ++ L1, by simpa using Slots.cons h q, List.Sublist.append (List.Sublist.refl _) s⟩

/-- THE STATE: the slots hold what the environment says -/
def State (C : GCtx) (e : En) (F : Hp) (σ : St) (H : Hp) (Γ : List Cell) : Prop := ∃ L, Wk e F L H ∧ Slots C F σ Γ L
section
variable {C : GCtx} {e : En} {F F' : Hp} {σ : St} {H H' : Hp} {Γ : List Cell}
theorem State.grow (s : State C e F σ H Γ) (g : Gr F H F' H') : State C e F' σ H' Γ := by
  obtain ⟨L, k, sl⟩ := s
  exact ⟨L, k.trans0 g, sl.mono g.ff⟩
theorem State.base (s : State C e F σ H Γ) : Gr F H F H := let ⟨_, k, _⟩ := s; k.base
theorem State.fh (s : State C e F σ H Γ) : Same F H := let ⟨_, k, _⟩ := s; k.fh
theorem State.val {α : Type} {d : Dat α} {x : α} {i : Nat} (s : State C e F σ H Γ) (h : Γ[i]? = some (.val d x)) : ∃ v, σ[i]? = some (some v) ∧ d.rep C F v x := by
  obtain ⟨L, k, sl⟩ := s
  obtain ⟨o, L1, Li, L2, e1, _, ⟨_, v, rfl, r⟩, _⟩ := sl.get h
  exact ⟨v, e1, r⟩
theorem State.own {α : Type} {d : Dat α} {od : OD α} {x : α} {i : Nat} {pin : Option V} (s : State C e F σ H Γ) (h : Γ[i]? = some (.own d od pin x)) : ∃ v, σ[i]? = some (some v) ∧ d.rep C H v x := by
  obtain ⟨L, k, sl⟩ := s
  obtain ⟨o, L1, Li, L2, e1, e2, ⟨v, rfl, _, r⟩, _⟩ := sl.get h
  exact ⟨v, e1, od.view r k.fh fun p hp => (k.ow p (by rw [e2]; exact List.mem_append_left _ (List.mem_append_right _ hp))).2.1⟩
/-- a slot is stored -/
theorem State.set {c c' : Cell} {i : Nat} {v : V} {L' : LO} (s : State C e F σ H Γ) (h : Γ[i]? = some c) (g : Wk ⟨F, H, []⟩ F' L' H') (r : CellOk C F' (some v) c' L') : State C e F' (σ.set i (some v)) H' (Γ.set i c') := by
  obtain ⟨L, k, sl⟩ := s
  obtain ⟨o, L1, Li, L2, e1, e2, _, f⟩ := sl.get h
  refine ⟨L1 ++ L' ++ L2, ?_, f F' (some v) c' L' g.ff r⟩
  have q := k.trans g
  rw [e2] at q
  have q2 : Wk e F' ((L' ++ L1) ++ Li ++ L2) H' := by simpa [List.append_assoc] using q
  have q3 := q2.drop
  have q4 : Wk e F' (L' ++ (L1 ++ L2)) H' := by simpa [List.append_assoc] using q3
  exact q4.back
/-- a slot is forgotten -/
theorem State.forget {i : Nat} {c : Cell} {o : Option V} (s : State C e F σ H Γ) (h : Γ[i]? = some c) : State C e F (σ.set i o) H (Γ.set i .no) := by
  obtain ⟨L, k, sl⟩ := s
  obtain ⟨o1, L1, Li, L2, e1, e2, _, f⟩ := sl.get h
  rw [e2] at k
  have q := f F o .no [] (Same.refl _) rfl
  rw [List.append_nil] at q
  exact ⟨L1 ++ L2, k.drop, q⟩
theorem State.hide {i : Nat} {c : Cell} (s : State C e F σ H Γ) (h : Γ[i]? = some c) : State C e F σ H (Γ.set i .no) := by
  obtain ⟨L, k, sl⟩ := s
  obtain ⟨o1, L1, Li, L2, e1, e2, _, f⟩ := sl.get h
  rw [e2] at k
  have q := f F o1 .no [] (Same.refl _) rfl
  rw [List.append_nil] at q
  have z : σ.set i o1 = σ := by
    apply List.ext_getElem?
    intro j
    by_cases hj : i = j
    · subst hj
      obtain ⟨hlt, hv⟩ := List.getElem?_eq_some_iff.mp e1
      rw [List.getElem?_set_self hlt, e1]
    · rw [List.getElem?_set_ne hj]
  rw [z] at q
  exact ⟨L1 ++ L2, k.drop, q⟩
end
end G

/-! G2: data, judgements, the rules for expressions. -/
namespace G
open PySem L2

theorem Wk.hh0 {F H F' H' : Hp} {L : LO} (g : Wk ⟨F, H, []⟩ F' L H') : Same H H' := fun a o h => g.hh a o (fun z => nomatch z) h

/-! ### scalars -/
instance dInt : Dat Int := ⟨fun _ _ v x => v = .int x, fun _ h => h⟩
instance dBool : Dat Bool := ⟨fun _ _ v x => v = .bl x, fun _ h => h⟩
instance dStr : Dat Str := ⟨fun _ _ v x => v = .str x, fun _ h => h⟩
instance dUnit : Dat Unit := ⟨fun _ _ v _ => v = .non, fun _ h => h⟩
instance imInt : Imm Int := ⟨fun _ h => h⟩
instance imBool : Imm Bool := ⟨fun _ h => h⟩
instance imStr : Imm Str := ⟨fun _ h => h⟩
instance imUnit : Imm Unit := ⟨fun _ h => h⟩
/-- None or a value -/
inductive Opt (α : Type) where
  | none : Opt α
  | some (x : α) : Opt α
  deriving DecidableEq
instance dOpt {α : Type} [d : Dat α] : Dat (Opt α) := ⟨fun C F v x => match x with | .none => v = .non | .some y => d.rep C F v y, fun {C F F' v x} s h => match x, h with | .none, h => h | .some _, h => d.mono s h⟩
instance imOpt {α : Type} [d : Dat α] [i : Imm α] : Imm (Opt α) := ⟨fun {C F H v x} t h => match x, h with | .none, h => h | .some _, h => i.imm t h⟩

/-! ### lists -/
def Reps {α : Type} (d : Dat α) (C : GCtx) (F : Hp) : List V → List α → Prop
  | [], [] => True
  | v :: vs, x :: xs => d.rep C F v x ∧ Reps d C F vs xs
  | _, _ => False
section
variable {α : Type} {d : Dat α} {C : GCtx} {F F' : Hp}
theorem Reps.mono (s : Same F F') : ∀ {vs : List V} {xs : List α}, Reps d C F vs xs → Reps d C F' vs xs
  | [], [], _ => trivial
  | _ :: _, _ :: _, h => ⟨d.mono s h.1, Reps.mono s h.2⟩
  | [], _ :: _, h => h.elim
  | _ :: _, [], h => h.elim
theorem Reps.len : ∀ {vs : List V} {xs : List α}, Reps d C F vs xs → vs.length = xs.length
  | [], [], _ => rfl
  | _ :: _, _ :: _, h => by simp [Reps.len h.2]
  | [], _ :: _, h => h.elim
  | _ :: _, [], h => h.elim
theorem Reps.get : ∀ {vs : List V} {xs : List α} {i : Nat} {x : α}, Reps d C F vs xs → xs[i]? = some x → ∃ v, vs[i]? = some v ∧ d.rep C F v x
  | [], [], i, x, _, h => by cases i <;> cases h
  | v :: vs, y :: xs, 0, x, h, e => by cases (Option.some.inj e : y = x); exact ⟨v, rfl, h.1⟩
  | v :: vs, y :: xs, i + 1, x, h, e => Reps.get (i := i) h.2 e
  | [], _ :: _, _, _, h, _ => h.elim
  | _ :: _, [], _, _, h, _ => h.elim
theorem Reps.getV : ∀ {vs : List V} {xs : List α} {i : Nat} {v : V}, Reps d C F vs xs → vs[i]? = some v → ∃ x, xs[i]? = some x ∧ d.rep C F v x
  | [], [], i, x, _, h => by cases i <;> cases h
  | v :: vs, y :: xs, 0, x, h, e => by cases (Option.some.inj e : v = x); exact ⟨y, rfl, h.1⟩
  | v :: vs, y :: xs, i + 1, x, h, e => Reps.getV (i := i) h.2 e
  | [], _ :: _, _, _, h, _ => h.elim
  | _ :: _, [], _, _, h, _ => h.elim
theorem Reps.append : ∀ {vs ws : List V} {xs ys : List α}, Reps d C F vs xs → Reps d C F ws ys → Reps d C F (vs ++ ws) (xs ++ ys)
  | [], _, [], _, _, h => h
  | _ :: _, _, _ :: _, _, h, g => ⟨h.1, Reps.append h.2 g⟩
  | [], _, _ :: _, _, h, _ => h.elim
  | _ :: _, _, [], _, h, _ => h.elim
theorem Reps.one {v : V} {x : α} (h : d.rep C F v x) : Reps d C F [v] [x] := ⟨h, trivial⟩
theorem Reps.take : ∀ {vs : List V} {xs : List α} (n : Nat), Reps d C F vs xs → Reps d C F (vs.take n) (xs.take n)
  | [], [], n, _ => by simp [Reps]
  | _ :: _, _ :: _, 0, _ => trivial
  | _ :: _, _ :: _, n + 1, h => ⟨h.1, Reps.take n h.2⟩
  | [], _ :: _, _, h => h.elim
  | _ :: _, [], _, h => h.elim
theorem Reps.drop : ∀ {vs : List V} {xs : List α} (n : Nat), Reps d C F vs xs → Reps d C F (vs.drop n) (xs.drop n)
  | [], [], n, _ => by simp [Reps]
  | _ :: _, _ :: _, 0, h => h
  | _ :: _, _ :: _, n + 1, h => Reps.drop n h.2
  | [], _ :: _, _, h => h.elim
  | _ :: _, [], _, h => h.elim
theorem Reps.set {v : V} {x : α} : ∀ {vs : List V} {xs : List α} (i : Nat), Reps d C F vs xs → d.rep C F v x → Reps d C F (vs.set i v) (xs.set i x)
  | [], [], _, _, _ => trivial
  | _ :: _, _ :: _, 0, h, g => ⟨g, h.2⟩
  | _ :: _, _ :: _, i + 1, h, g => ⟨h.1, Reps.set i h.2 g⟩
  | [], _ :: _, _, h, _ => h.elim
  | _ :: _, [], _, h, _ => h.elim
theorem Reps.ints : ∀ {vs : List V} {xs : List Int}, Reps dInt C F vs xs → vs = xs.map V.int
  | [], [], _ => rfl
  | _ :: _, _ :: _, h => by rw [Reps.ints h.2, show _ = V.int _ from h.1]; rfl
  | [], _ :: _, h => h.elim
  | _ :: _, [], h => h.elim
theorem Reps.ofInts : ∀ (xs : List Int), Reps dInt C F (xs.map V.int) xs
  | [] => trivial
  | _ :: xs => ⟨rfl, Reps.ofInts xs⟩
theorem Reps.bools : ∀ {vs : List V} {xs : List Bool}, Reps dBool C F vs xs → vs = xs.map V.bl
  | [], [], _ => rfl
  | _ :: _, _ :: _, h => by rw [Reps.bools h.2, show _ = V.bl _ from h.1]; rfl
  | [], _ :: _, h => h.elim
  | _ :: _, [], h => h.elim
theorem Reps.imm [i : @Imm α d] {H : Hp} (t : ∀ a xs, H a = some (.tup xs) → F a = some (.tup xs)) : ∀ {vs : List V} {xs : List α}, Reps d C H vs xs → Reps d C F vs xs
  | [], [], _ => trivial
  | _ :: _, _ :: _, h => ⟨i.imm t h.1, Reps.imm t h.2⟩
  | [], _ :: _, h => h.elim
  | _ :: _, [], h => h.elim
end
/-- a tuple that stands still: frozen, or of the written part -/
def TpA (K : PySem.W.Frag) (F : Hp) (a : Addr) (xs : List V) : Prop := F a = some (.tup xs) ∨ SqT K (fun _ => none) a xs
theorem TpA.mono {K : PySem.W.Frag} {F F' : Hp} {a : Addr} {xs : List V} (s : Same F F') (h : TpA K F a xs) : TpA K F' a xs := h.imp (s a _) id
theorem TpA.sq {K : PySem.W.Frag} {F : Hp} {a : Addr} {xs : List V} (h : TpA K F a xs) : SqT K F a xs := by
  rcases h with h | h
  · exact .inl (.inl h)
  · rcases h with (h | ⟨_, h⟩) | h
    · cases h
    · cases h
    · exact .inr h
instance dList {α : Type} [d : Dat α] : Dat (List α) :=
  ⟨fun C F v xs => ∃ a vs, v = .ref a ∧ SqL C.K F a vs ∧ Reps d C F vs xs, fun s ⟨a, vs, e, h, r⟩ => ⟨a, vs, e, s.seq h, r.mono s⟩⟩
instance oList {α : Type} [d : Dat α] : OD (List α) where
  orep C F v xs L := ∃ a vs, v = .ref a ∧ L = [(a, .lst vs)] ∧ Reps d C F vs xs
  omono s := fun ⟨a, vs, e, h, r⟩ => ⟨a, vs, e, h, r.mono s⟩
  view := fun ⟨a, vs, e, h, r⟩ s k => ⟨a, vs, e, .inl (.inl (k (a, .lst vs) (by rw [h]; exact List.mem_cons_self))), r.mono s⟩
/-- a tuple of any length, its items alike -/
structure Tup (α : Type) where
  l : List α
  deriving DecidableEq
instance dTup {α : Type} [d : Dat α] : Dat (Tup α) :=
  ⟨fun C F v xs => ∃ a vs, v = .ref a ∧ TpA C.K F a vs ∧ Reps d C F vs xs.l, fun s ⟨a, vs, e, h, r⟩ => ⟨a, vs, e, h.mono s, r.mono s⟩⟩
instance imTup {α : Type} [d : Dat α] [i : Imm α] : Imm (Tup α) := ⟨fun t ⟨a, vs, e, h, r⟩ => ⟨a, vs, e, h.imp (t a _) id, r.imm t⟩⟩
instance dPair {α β : Type} [d1 : Dat α] [d2 : Dat β] : Dat (α × β) :=
  ⟨fun C F v x => ∃ a v1 v2, v = .ref a ∧ TpA C.K F a [v1, v2] ∧ d1.rep C F v1 x.1 ∧ d2.rep C F v2 x.2, fun s ⟨a, v1, v2, e, h, r1, r2⟩ => ⟨a, v1, v2, e, h.mono s, d1.mono s r1, d2.mono s r2⟩⟩
instance imPair {α β : Type} [d1 : Dat α] [d2 : Dat β] [i1 : Imm α] [i2 : Imm β] : Imm (α × β) := ⟨fun t ⟨a, v1, v2, e, h, r1, r2⟩ => ⟨a, v1, v2, e, h.imp (t a _) id, i1.imm t r1, i2.imm t r2⟩⟩
structure T3 (α β γ : Type) where
  a : α
  b : β
  c : γ
  deriving DecidableEq
structure T4 (α β γ δ : Type) where
  a : α
  b : β
  c : γ
  d : δ
  deriving DecidableEq
instance dT3 {α β γ : Type} [d1 : Dat α] [d2 : Dat β] [d3 : Dat γ] : Dat (T3 α β γ) :=
  ⟨fun C F v x => ∃ a v1 v2 v3, v = .ref a ∧ TpA C.K F a [v1, v2, v3] ∧ d1.rep C F v1 x.a ∧ d2.rep C F v2 x.b ∧ d3.rep C F v3 x.c,
    fun s ⟨a, v1, v2, v3, e, h, r1, r2, r3⟩ => ⟨a, v1, v2, v3, e, h.mono s, d1.mono s r1, d2.mono s r2, d3.mono s r3⟩⟩
instance imT3 {α β γ : Type} [d1 : Dat α] [d2 : Dat β] [d3 : Dat γ] [i1 : Imm α] [i2 : Imm β] [i3 : Imm γ] : Imm (T3 α β γ) :=
  ⟨fun t ⟨a, v1, v2, v3, e, h, r1, r2, r3⟩ => ⟨a, v1, v2, v3, e, h.imp (t a _) id, i1.imm t r1, i2.imm t r2, i3.imm t r3⟩⟩
instance dT4 {α β γ δ : Type} [d1 : Dat α] [d2 : Dat β] [d3 : Dat γ] [d4 : Dat δ] : Dat (T4 α β γ δ) :=
  ⟨fun C F v x => ∃ a v1 v2 v3 v4, v = .ref a ∧ TpA C.K F a [v1, v2, v3, v4] ∧ d1.rep C F v1 x.a ∧ d2.rep C F v2 x.b ∧ d3.rep C F v3 x.c ∧ d4.rep C F v4 x.d,
    fun s ⟨a, v1, v2, v3, v4, e, h, r1, r2, r3, r4⟩ => ⟨a, v1, v2, v3, v4, e, h.mono s, d1.mono s r1, d2.mono s r2, d3.mono s r3, d4.mono s r4⟩⟩
instance imT4 {α β γ δ : Type} [d1 : Dat α] [d2 : Dat β] [d3 : Dat γ] [d4 : Dat δ] [i1 : Imm α] [i2 : Imm β] [i3 : Imm γ] [i4 : Imm δ] : Imm (T4 α β γ δ) :=
  ⟨fun t ⟨a, v1, v2, v3, v4, e, h, r1, r2, r3, r4⟩ => ⟨a, v1, v2, v3, v4, e, h.imp (t a _) id, i1.imm t r1, i2.imm t r2, i3.imm t r3, i4.imm t r4⟩⟩

/-! ### judgements -/
/-- the term evaluates to a value that k is true of, frozen from now on -/
def W (C : GCtx) (te : TE) (Γ : List Cell) {α : Type} (d : Dat α) (k : α → Prop) : Prop := ∀ (e : En) (F : Hp) (σ : St) (H : Hp), State C e F σ H Γ → ∀ Q : VK, (∀ v F' H' x, k x → Gr F H F' H' → d.rep C F' v x → Q v H') → te σ H Q
/-- .. that may be read until the next store -/
def R (C : GCtx) (te : TE) (Γ : List Cell) {α : Type} (d : Dat α) (k : α → Prop) : Prop := ∀ (e : En) (F : Hp) (σ : St) (H : Hp), State C e F σ H Γ → ∀ Q : VK, (∀ v F' H' x, k x → Gr F H F' H' → d.rep C H' v x → Q v H') → te σ H Q
/-- .. that is new, and owned -/
def O (C : GCtx) (te : TE) (Γ : List Cell) {α : Type} {d : Dat α} (od : OD α) (k : α → Prop) : Prop := ∀ (e : En) (F : Hp) (σ : St) (H : Hp), State C e F σ H Γ → ∀ Q : VK, (∀ v F' H' L' x, k x → Wk ⟨F, H, []⟩ F' L' H' → od.orep C F' v x L' → Q v H') → te σ H Q
def T (C : GCtx) (t : TT) (Γ : List Cell) (k : Bool → Prop) : Prop := ∀ (e : En) (F : Hp) (σ : St) (H : Hp), State C e F σ H Γ → ∀ Q : Bool → Hp → Prop, (∀ b F' H', k b → Gr F H F' H' → Q b H') → t σ H Q
def RA (C : GCtx) (ta : TA) (Γ : List Cell) (k : List Cell → Prop) : Prop := ∀ (e : En) (F : Hp) (σ : St) (H : Hp), State C e F σ H Γ → ∀ Q : List V → Hp → Prop, (∀ vs F' H' cs, k cs → Gr F H F' H' → Slots C H' (vs.map some) cs [] → Q vs H') → ta σ H Q
def WA (C : GCtx) (ta : TA) (Γ : List Cell) (k : List Cell → Prop) : Prop := ∀ (e : En) (F : Hp) (σ : St) (H : Hp), State C e F σ H Γ → ∀ Q : List V → Hp → Prop, (∀ vs F' H' cs, k cs → Gr F H F' H' → Slots C F' (vs.map some) cs [] → Q vs H') → ta σ H Q

section
variable {C : GCtx} {Γ : List Cell} {te ta tb tc : TE} {t u : TT} {α β γ : Type} {d1 : Dat α} {d : Dat α} {d2 : Dat β} {d3 : Dat γ}

theorem r_of_w {k : α → Prop} (h : W C te Γ d k) : R C te Γ d k := fun e F σ H s Q q => h e F σ H s Q fun v F' H' x kx g r => q v F' H' x kx g (d.mono g.fh r)
theorem w_of_r [i : @Imm α d] {k : α → Prop} (h : R C te Γ d k) : W C te Γ d k := fun e F σ H s Q q => h e F σ H s Q fun v F' H' x kx g r => q v F' H' x kx g (i.imm g.tp r)
theorem w_mono {k k' : α → Prop} (h : W C te Γ d k) (m : ∀ x, k x → k' x) : W C te Γ d k' := fun e F σ H s Q q => h e F σ H s Q fun v F' H' x kx g r => q v F' H' x (m x kx) g r
theorem t_mono {k k' : Bool → Prop} (h : T C t Γ k) (m : ∀ x, k x → k' x) : T C t Γ k' := fun e F σ H s Q q => h e F σ H s Q fun b F' H' kx g => q b F' H' (m b kx) g
/-- what is owned and new is frozen at once -/
theorem w_of_o {od : @OD α d} {k : α → Prop} (h : O C te Γ od k) : W C te Γ d k := fun e F σ H s Q q => h e F σ H s Q fun v F' H' L' x kx g r => by
  have g1 : Wk ⟨F, H, []⟩ F' (L' ++ []) H' := by rw [List.append_nil]; exact g
  have g2 : Gr F H (plus F' L') H' := g1.freeze fun p hp z => nomatch z
  refine q v _ H' x kx g2 (od.view r (same_plus (fun p hp => (g.ow p hp).1) g.nd) (plus_get (fun p hp => (g.ow p hp).1) g.nd))

/-! names and constants -/
theorem w_var {i : Nat} {x : α} {k : α → Prop} (h : Γ[i]? = some (.val d x)) (hk : k x) : W C (tVar i) Γ d k := fun e F σ H s Q q => by
  obtain ⟨v, e1, r⟩ := s.val h
  exact ⟨v, e1, q v F H x hk s.base r⟩
theorem r_var {i : Nat} {x : α} {k : α → Prop} (h : Γ[i]? = some (.val d x)) (hk : k x) : R C (tVar i) Γ d k := r_of_w (w_var h hk)
theorem r_varO {od : @OD α d} {pin : Option V} {i : Nat} {x : α} {k : α → Prop} (h : Γ[i]? = some (.own d od pin x)) (hk : k x) : R C (tVar i) Γ d k := fun e F σ H s Q q => by
  obtain ⟨v, e1, r⟩ := s.own h
  exact ⟨v, e1, q v F H x hk s.base r⟩
theorem w_int {n : Int} {k : Int → Prop} (hk : k n) : W C (tC (.int n)) Γ dInt k := fun e F σ H s Q q => q _ F H n hk s.base rfl
theorem w_bl {n : Bool} {k : Bool → Prop} (hk : k n) : W C (tC (.bl n)) Γ dBool k := fun e F σ H s Q q => q _ F H n hk s.base rfl
theorem w_str {n : Str} {k : Str → Prop} (hk : k n) : W C (tC (.str n)) Γ dStr k := fun e F σ H s Q q => q _ F H n hk s.base rfl
theorem w_non {k : Unit → Prop} (hk : k ()) : W C (tC .non) Γ dUnit k := fun e F σ H s Q q => q _ F H () hk s.base rfl
theorem w_nonO {k : Opt α → Prop} (hk : k .none) : W C (tC .non) Γ (dOpt (d := d)) k := fun e F σ H s Q q => q _ F H .none hk s.base rfl
theorem w_some {k : Opt α → Prop} (h : W C te Γ d fun x => k (.some x)) : W C te Γ (dOpt (d := d)) k := fun e F σ H s Q q => h e F σ H s Q fun v F' H' x kx g r => q v F' H' (.some x) kx g r

/-! two operands, a scalar back -/
theorem w_op {r : R2} {k : γ → Prop} (h : R C ta Γ d1 fun x => R C tb Γ d2 fun y => ∃ z, k z ∧ ∀ v1 v2 F H (Q : VK), Gr F H F H → d1.rep C H v1 x → d2.rep C H v2 y → (∀ v F' H', Gr F H F' H' → d3.rep C F' v z → Q v H') → r v1 v2 H Q) : W C (tOp r ta tb) Γ d3 k :=
  fun e F σ H s Q q => h e F σ H s _ fun v1 F1 H1 x h1 g1 r1 => h1 e F1 σ H1 (s.grow g1) _ fun v2 F2 H2 y ⟨z, kz, hz⟩ g2 r2 =>
    hz v1 v2 F2 H2 Q g2.base (d1.mono g2.hh0 r1) r2 fun v F' H' g3 r3 => q v F' H' z kz ((g1.trans0 g2).trans0 g3) r3
theorem w_ii {r : R2} {f : Int → Int → γ} {P : Int → Int → Prop} {ec : γ → V} {k : γ → Prop} (hd : ∀ F z, d3.rep C F (ec z) z) (hr : ∀ i j H (Q : VK), P i j → Q (ec (f i j)) H → r (.int i) (.int j) H Q)
    (h : R C ta Γ dInt fun x => R C tb Γ dInt fun y => P x y ∧ k (f x y)) : W C (tOp r ta tb) Γ d3 k :=
  fun e F σ H s Q q => h e F σ H s _ fun v1 F1 H1 x h1 g1 r1 => h1 e F1 σ H1 (s.grow g1) _ fun v2 F2 H2 y ⟨p, kz⟩ g2 r2 => by
    cases (show v1 = .int x from r1)
    cases (show v2 = .int y from r2)
    exact hr x y H2 Q p (q _ F2 H2 _ kz (g1.trans0 g2) (hd F2 _))
theorem w_i0 {r : R2} {f : Int → Int → γ} {ec : γ → V} {k : γ → Prop} (hd : ∀ F z, d3.rep C F (ec z) z) (hr : ∀ i j H (Q : VK), Q (ec (f i j)) H → r (.int i) (.int j) H Q)
    (h : R C ta Γ dInt fun x => R C tb Γ dInt fun y => k (f x y)) : W C (tOp r ta tb) Γ d3 k :=
  fun e F σ H s Q q => h e F σ H s _ fun v1 F1 H1 x h1 g1 r1 => h1 e F1 σ H1 (s.grow g1) _ fun v2 F2 H2 y kz g2 r2 => by
    cases (show v1 = .int x from r1)
    cases (show v2 = .int y from r2)
    exact hr x y H2 Q (q _ F2 H2 _ kz (g1.trans0 g2) (hd F2 _))
section
variable {k : Int → Prop} {kb : Bool → Prop}
theorem w_add (h : R C ta Γ dInt fun x => R C tb Γ dInt fun y => k (x + y)) : W C (tOp (rI0 fun i j => .int (i + j)) ta tb) Γ dInt k := w_i0 (ec := V.int) (fun _ _ => rfl) (fun i j H Q q => ⟨i, j, rfl, rfl, q⟩) h
theorem w_sub (h : R C ta Γ dInt fun x => R C tb Γ dInt fun y => k (x - y)) : W C (tOp (rI0 fun i j => .int (i - j)) ta tb) Γ dInt k := w_i0 (ec := V.int) (fun _ _ => rfl) (fun i j H Q q => ⟨i, j, rfl, rfl, q⟩) h
theorem w_mul (h : R C ta Γ dInt fun x => R C tb Γ dInt fun y => CMul x y ∧ k (x * y)) : W C (tOp (rI CMul fun i j => .int (i * j)) ta tb) Γ dInt k := w_ii (ec := V.int) (fun _ _ => rfl) (fun i j H Q p q => ⟨i, j, rfl, rfl, p, q⟩) h
theorem w_mod (h : R C ta Γ dInt fun x => R C tb Γ dInt fun y => 0 < y ∧ k (x % y)) : W C (tOp (rI (fun _ j => 0 < j) fun i j => .int (i % j)) ta tb) Γ dInt k := w_ii (P := fun _ j => 0 < j) (ec := V.int) (fun _ _ => rfl) (fun i j H Q p q => ⟨i, j, rfl, rfl, p, q⟩) h
theorem w_fdiv (h : R C ta Γ dInt fun x => R C tb Γ dInt fun y => CDiv x y ∧ k (x / y)) : W C (tOp (rI CDiv fun i j => .int (i / j)) ta tb) Γ dInt k := w_ii (ec := V.int) (fun _ _ => rfl) (fun i j H Q p q => ⟨i, j, rfl, rfl, p, q⟩) h
theorem w_pow (h : R C ta Γ dInt fun x => R C tb Γ dInt fun y => CPow x y ∧ k (x ^ y.toNat)) : W C (tOp (rI CPow fun i j => .int (i ^ j.toNat)) ta tb) Γ dInt k := w_ii (ec := V.int) (fun _ _ => rfl) (fun i j H Q p q => ⟨i, j, rfl, rfl, p, q⟩) h
theorem w_lt (h : R C ta Γ dInt fun x => R C tb Γ dInt fun y => kb (decide (x < y))) : W C (tOp (rI0 fun i j => .bl (decide (i < j))) ta tb) Γ dBool kb := w_i0 (f := fun i j => decide (i < j)) (ec := V.bl) (fun _ _ => rfl) (fun i j H Q q => ⟨i, j, rfl, rfl, q⟩) h
theorem w_le (h : R C ta Γ dInt fun x => R C tb Γ dInt fun y => kb (decide (x ≤ y))) : W C (tOp (rI0 fun i j => .bl (decide (i ≤ j))) ta tb) Γ dBool kb := w_i0 (f := fun i j => decide (i ≤ j)) (ec := V.bl) (fun _ _ => rfl) (fun i j H Q q => ⟨i, j, rfl, rfl, q⟩) h
theorem w_gt (h : R C ta Γ dInt fun x => R C tb Γ dInt fun y => kb (decide (y < x))) : W C (tOp (rI0 fun i j => .bl (decide (j < i))) ta tb) Γ dBool kb := w_i0 (f := fun i j => decide (j < i)) (ec := V.bl) (fun _ _ => rfl) (fun i j H Q q => ⟨i, j, rfl, rfl, q⟩) h
theorem w_ge (h : R C ta Γ dInt fun x => R C tb Γ dInt fun y => kb (decide (y ≤ x))) : W C (tOp (rI0 fun i j => .bl (decide (j ≤ i))) ta tb) Γ dBool kb := w_i0 (f := fun i j => decide (j ≤ i)) (ec := V.bl) (fun _ _ => rfl) (fun i j H Q q => ⟨i, j, rfl, rfl, q⟩) h
theorem w_eqI (h : R C ta Γ dInt fun x => R C tb Γ dInt fun y => kb (decide (x = y))) : W C (tOp rEq ta tb) Γ dBool kb := w_i0 (f := fun i j => decide (i = j)) (ec := V.bl) (fun _ _ => rfl) (fun i j H Q q => ⟨rfl, by
  rw [show decide (V.int i = V.int j) = decide (i = j) from decide_eq_decide.mpr ⟨fun z => V.int.inj z, fun z => by rw [z]⟩]; exact q⟩) h
theorem w_neI (h : R C ta Γ dInt fun x => R C tb Γ dInt fun y => kb (!decide (x = y))) : W C (tOp rNe ta tb) Γ dBool kb := w_i0 (f := fun i j => !decide (i = j)) (ec := V.bl) (fun _ _ => rfl) (fun i j H Q q => ⟨rfl, by
  rw [show decide (V.int i = V.int j) = decide (i = j) from decide_eq_decide.mpr ⟨fun z => V.int.inj z, fun z => by rw [z]⟩]; exact q⟩) h
theorem w_eqB (h : R C ta Γ dBool fun x => R C tb Γ dBool fun y => kb (decide (x = y))) : W C (tOp rEq ta tb) Γ dBool kb := w_op (d3 := dBool) fun e F σ H s Q q => h e F σ H s Q fun v F' H' x kx g r => q v F' H' x (fun e F σ H s Q q => kx e F σ H s Q fun v F' H' y ky g r => q v F' H' y ⟨_, ky, fun v1 v2 F H Q g r1 r2 q => by
  cases (show v1 = .bl x from r1); cases (show v2 = .bl y from r2)
  exact ⟨rfl, by rw [show decide (V.bl x = V.bl y) = decide (x = y) from decide_eq_decide.mpr ⟨fun z => V.bl.inj z, fun z => by rw [z]⟩]; exact q _ F H g rfl⟩⟩ g r) g r
theorem w_neB (h : R C ta Γ dBool fun x => R C tb Γ dBool fun y => kb (!decide (x = y))) : W C (tOp rNe ta tb) Γ dBool kb := w_op (d3 := dBool) fun e F σ H s Q q => h e F σ H s Q fun v F' H' x kx g r => q v F' H' x (fun e F σ H s Q q => kx e F σ H s Q fun v F' H' y ky g r => q v F' H' y ⟨_, ky, fun v1 v2 F H Q g r1 r2 q => by
  cases (show v1 = .bl x from r1); cases (show v2 = .bl y from r2)
  exact ⟨rfl, by rw [show decide (V.bl x = V.bl y) = decide (x = y) from decide_eq_decide.mpr ⟨fun z => V.bl.inj z, fun z => by rw [z]⟩]; exact q _ F H g rfl⟩⟩ g r) g r
theorem w_neg (h : R C ta Γ dInt fun x => k (-x)) : W C (tUn (rU fun i => .int (-i)) ta) Γ dInt k := fun e F σ H s Q q => h e F σ H s _ fun v F' H' x kx g r => by
  cases (show v = .int x from r)
  exact ⟨x, rfl, q _ F' H' _ kx g rfl⟩
end

/-! tests -/
theorem t_test {k : Bool → Prop} (h : R C te Γ dBool k) : T C (tTest te) Γ k := fun e F σ H s Q q => h e F σ H s _ fun v F' H' x kx g r => ⟨x, r, q x F' H' kx g⟩
theorem t_B {k : Bool → Prop} (h : R C te Γ dBool k) : T C (tB te) Γ k := fun e F σ H s Q q => h e F σ H s _ fun v F' H' x kx g r => ⟨x, r, q x F' H' kx g⟩
theorem t_not {k : Bool → Prop} (h : T C t Γ fun b => k (!b)) : T C (tNot t) Γ k := fun e F σ H s Q q => h e F σ H s _ fun b F' H' kx g => q (!b) F' H' kx g
theorem t_and {k : Bool → Prop} (h : T C t Γ fun b => (b = true → T C u Γ k) ∧ (b = false → k false)) : T C (tAnd t u) Γ k := fun e F σ H s Q q => h e F σ H s _ fun b F' H' kx g => by
  cases b with
  | true => exact kx.1 rfl e F' σ H' (s.grow g) Q fun b F2 H2 kb g2 => q b F2 H2 kb (g.trans0 g2)
  | false => exact q false F' H' (kx.2 rfl) g
theorem t_or {k : Bool → Prop} (h : T C t Γ fun b => (b = true → k true) ∧ (b = false → T C u Γ k)) : T C (tOr t u) Γ k := fun e F σ H s Q q => h e F σ H s _ fun b F' H' kx g => by
  cases b with
  | false => exact kx.2 rfl e F' σ H' (s.grow g) Q fun b F2 H2 kb g2 => q b F2 H2 kb (g.trans0 g2)
  | true => exact q true F' H' (kx.1 rfl) g
/-- .. where what comes out is a function of what stands there -/
theorem t_and' {a b : Bool} (h : T C t Γ (· = a)) (h' : a = true → T C u Γ (· = b)) : T C (tAnd t u) Γ (· = (a && b)) := t_and (t_mono h fun x e => ⟨fun z => by
  subst e; subst z; exact h' rfl, fun z => by subst e; subst z; rfl⟩)
theorem t_or' {a b : Bool} (h : T C t Γ (· = a)) (h' : a = false → T C u Γ (· = b)) : T C (tOr t u) Γ (· = (a || b)) := t_or (t_mono h fun x e => ⟨fun z => by
  subst e; subst z; rfl, fun z => by subst e; subst z; exact h' rfl⟩)
theorem t_eq {a : Bool} {k : Bool → Prop} (h : T C t Γ (· = a)) (hk : k a) : T C t Γ k := t_mono h fun x e => by subst e; exact hk
theorem w_eq {a : α} {k : α → Prop} (h : W C te Γ d (· = a)) (hk : k a) : W C te Γ d k := w_mono h fun x e => by subst e; exact hk
/-! values by tests -/
theorem w_andV {k : Bool → Prop} (h : R C ta Γ dBool fun a => (a = true → W C tb Γ dBool k) ∧ (a = false → k false)) : W C (tAndV ta tb) Γ dBool k := fun e F σ H s Q q => h e F σ H s _ fun v F' H' x kx g r => ⟨x, r, by
  cases x with
  | true => exact kx.1 rfl e F' σ H' (s.grow g) Q fun v F2 H2 x kb g2 r => q v F2 H2 x kb (g.trans0 g2) r
  | false => exact q _ F' H' false (kx.2 rfl) g rfl⟩
theorem w_orV {k : Bool → Prop} (h : R C ta Γ dBool fun a => (a = true → k true) ∧ (a = false → W C tb Γ dBool k)) : W C (tOrV ta tb) Γ dBool k := fun e F σ H s Q q => h e F σ H s _ fun v F' H' x kx g r => ⟨x, r, by
  cases x with
  | false => exact kx.2 rfl e F' σ H' (s.grow g) Q fun v F2 H2 x kb g2 r => q v F2 H2 x kb (g.trans0 g2) r
  | true => exact q _ F' H' true (kx.1 rfl) g rfl⟩
theorem r_mono {k k' : α → Prop} (h : R C te Γ d k) (m : ∀ x, k x → k' x) : R C te Γ d k' := fun e F σ H s Q q => h e F σ H s Q fun v F' H' x kx g r => q v F' H' x (m x kx) g r
theorem w_andV' {a b : Bool} (h : R C ta Γ dBool (· = a)) (h' : a = true → W C tb Γ dBool (· = b)) : W C (tAndV ta tb) Γ dBool (· = (a && b)) := w_andV (r_mono h fun x e => ⟨fun z => by
  subst e; subst z; exact h' rfl, fun z => by subst e; subst z; rfl⟩)
theorem w_orV' {a b : Bool} (h : R C ta Γ dBool (· = a)) (h' : a = false → W C tb Γ dBool (· = b)) : W C (tOrV ta tb) Γ dBool (· = (a || b)) := w_orV (r_mono h fun x e => ⟨fun z => by
  subst e; subst z; rfl, fun z => by subst e; subst z; exact h' rfl⟩)
theorem w_notV {k : Bool → Prop} (h : R C ta Γ dBool fun a => k (!a)) : W C (tNotV ta) Γ dBool k := fun e F σ H s Q q => h e F σ H s _ fun v F' H' x kx g r => ⟨x, r, q _ F' H' (!x) kx g rfl⟩
theorem w_if {k : α → Prop} (h : T C t Γ fun b => (b = true → W C ta Γ d k) ∧ (b = false → W C tb Γ d k)) : W C (tIf t ta tb) Γ d k := fun e F σ H s Q q => h e F σ H s _ fun b F' H' kx g => by
  cases b with
  | true => exact kx.1 rfl e F' σ H' (s.grow g) Q fun v F2 H2 x kb g2 r => q v F2 H2 x kb (g.trans0 g2) r
  | false => exact kx.2 rfl e F' σ H' (s.grow g) Q fun v F2 H2 x kb g2 r => q v F2 H2 x kb (g.trans0 g2) r

/-! arguments -/
theorem ra_nil {k : List Cell → Prop} (hk : k []) : RA C tNil Γ k := fun e F σ H s Q q => q [] F H [] hk s.base .nil
theorem ra_cons {tr : TA} {k : List Cell → Prop} (h : R C te Γ d fun x => RA C tr Γ fun cs => k (.val d x :: cs)) : RA C (tCons te tr) Γ k := fun e F σ H s Q q => h e F σ H s _ fun v F1 H1 x h1 g1 r1 => h1 e F1 σ H1 (s.grow g1) _ fun vs F2 H2 cs kc g2 r2 =>
  q (v :: vs) F2 H2 (.val d x :: cs) kc (g1.trans0 g2) (Slots.cons (L := []) ⟨rfl, v, rfl, d.mono g2.hh0 r1⟩ r2)
theorem wa_nil {k : List Cell → Prop} (hk : k []) : WA C tNil Γ k := fun e F σ H s Q q => q [] F H [] hk s.base .nil
theorem wa_cons {tr : TA} {k : List Cell → Prop} (h : W C te Γ d fun x => WA C tr Γ fun cs => k (.val d x :: cs)) : WA C (tCons te tr) Γ k := fun e F σ H s Q q => h e F σ H s _ fun v F1 H1 x h1 g1 r1 => h1 e F1 σ H1 (s.grow g1) _ fun vs F2 H2 cs kc g2 r2 =>
  q (v :: vs) F2 H2 (.val d x :: cs) kc (g1.trans0 g2) (Slots.cons (L := []) ⟨rfl, v, rfl, d.mono g2.ff r1⟩ r2)

/-! built-ins of numbers -/
theorem w_abs {k : Int → Prop} (h : R C ta Γ dInt fun x => k (if x < 0 then -x else x)) : W C (tCB (fun xs H Q => ∃ i, xs = [.int i] ∧ Q (.int (if i < 0 then -i else i)) H) (tCons ta tNil)) Γ dInt k := fun e F σ H s Q q => h e F σ H s _ fun v F' H' x kx g r => by
  cases (show v = .int x from r)
  exact ⟨x, rfl, q _ F' H' _ kx g rfl⟩
theorem w_int1 {k : Int → Prop} (h : R C ta Γ dInt k) : W C (tCB (fun xs H Q => (∃ i, xs = [.int i] ∧ Q (.int i) H) ∨ ∃ k, xs = [.bl k] ∧ Q (.int (if k then 1 else 0)) H) (tCons ta tNil)) Γ dInt k := fun e F σ H s Q q => h e F σ H s _ fun v F' H' x kx g r => by
  cases (show v = .int x from r)
  exact .inl ⟨x, rfl, q _ F' H' _ kx g rfl⟩
theorem w_min2 {k : Int → Prop} (h : R C ta Γ dInt fun x => R C tb Γ dInt fun y => k (if y < x then y else x)) : W C (tCB (fun xs H Q => ∃ i j, xs = [.int i, .int j] ∧ Q (.int (if j < i then j else i)) H) (tCons ta (tCons tb tNil))) Γ dInt k := fun e F σ H s Q q => h e F σ H s _ fun v1 F1 H1 x h1 g1 r1 => h1 e F1 σ H1 (s.grow g1) _ fun v2 F2 H2 y ky g2 r2 => by
  cases (show v1 = .int x from r1)
  cases (show v2 = .int y from r2)
  exact ⟨x, y, rfl, q _ F2 H2 _ ky (g1.trans0 g2) rfl⟩
theorem w_max2 {k : Int → Prop} (h : R C ta Γ dInt fun x => R C tb Γ dInt fun y => k (if y > x then y else x)) : W C (tCB (fun xs H Q => ∃ i j, xs = [.int i, .int j] ∧ Q (.int (if j > i then j else i)) H) (tCons ta (tCons tb tNil))) Γ dInt k := fun e F σ H s Q q => h e F σ H s _ fun v1 F1 H1 x h1 g1 r1 => h1 e F1 σ H1 (s.grow g1) _ fun v2 F2 H2 y ky g2 r2 => by
  cases (show v1 = .int x from r1)
  cases (show v2 = .int y from r2)
  exact ⟨x, y, rfl, q _ F2 H2 _ ky (g1.trans0 g2) rfl⟩

/-! lists and tuples that are read -/
theorem w_len {k : Int → Prop} (h : R C ta Γ (dList (d := d)) fun xs => k (xs.length : Int)) : W C (tCB (fun xs H Q => ∃ p ys, xs = [.ref p] ∧ (SqL C.K H p ys ∨ SqT C.K H p ys) ∧ Q (.int ys.length) H) (tCons ta tNil)) Γ dInt k := fun e F σ H s Q q => h e F σ H s _ fun v F' H' x kx g ⟨a, vs, e1, h1, r⟩ => by
  subst e1
  exact ⟨a, vs, rfl, .inl h1, q _ F' H' _ (by rw [r.len]; exact kx) g rfl⟩
theorem w_lenT {k : Int → Prop} (h : R C ta Γ (dTup (d := d)) fun xs => k (xs.l.length : Int)) : W C (tCB (fun xs H Q => ∃ p ys, xs = [.ref p] ∧ (SqL C.K H p ys ∨ SqT C.K H p ys) ∧ Q (.int ys.length) H) (tCons ta tNil)) Γ dInt k := fun e F σ H s Q q => h e F σ H s _ fun v F' H' x kx g ⟨a, vs, e1, h1, r⟩ => by
  subst e1
  exact ⟨a, vs, rfl, .inr h1.sq, q _ F' H' _ (by rw [r.len]; exact kx) g rfl⟩
theorem atI_rep {F : Hp} {vs : List V} {xs : List α} {i : Int} {x : α} (r : Reps d C F vs xs) (h : atI xs i = some x) : ∃ v, atI vs i = some v ∧ d.rep C F v x := by
  unfold atI at h ⊢
  rw [r.len]
  cases e : ixN xs.length i with
  | none => rw [e] at h; cases h
  | some j => rw [e] at h; exact r.get h
theorem w_ix {k : α → Prop} (h : W C ta Γ (dList (d := d)) fun xs => R C tb Γ dInt fun i => ∃ x, atI xs i = some x ∧ k x) : W C (tOp (rIxL C.K) ta tb) Γ d k := fun e F σ H s Q q => h e F σ H s _ fun v1 F1 H1 xs h1 g1 ⟨a, vs, e1, hs, r⟩ => h1 e F1 σ H1 (s.grow g1) _ fun v2 F2 H2 i ⟨x, hx, kx⟩ g2 r2 => by
  subst e1
  cases (show v2 = .int i from r2)
  obtain ⟨v, hv, rv⟩ := atI_rep r hx
  exact ⟨a, vs, i, v, rfl, rfl, (g1.fh.trans g2.hh0).seq hs, hv, q _ F2 H2 x kx (g1.trans0 g2) (d.mono g2.ff rv)⟩
theorem w_ixT {k : α → Prop} (h : W C ta Γ (dTup (d := d)) fun xs => R C tb Γ dInt fun i => ∃ x, atI xs.l i = some x ∧ k x) : W C (tOp (rIxT C.K) ta tb) Γ d k := fun e F σ H s Q q => h e F σ H s _ fun v1 F1 H1 xs h1 g1 ⟨a, vs, e1, hs, r⟩ => h1 e F1 σ H1 (s.grow g1) _ fun v2 F2 H2 i ⟨x, hx, kx⟩ g2 r2 => by
  subst e1
  cases (show v2 = .int i from r2)
  obtain ⟨v, hv, rv⟩ := atI_rep r hx
  exact ⟨a, vs, i, v, rfl, rfl, (hs.mono (g2.ff.trans g2.fh)).sq, hv, q _ F2 H2 x kx (g1.trans0 g2) (d.mono g2.ff rv)⟩
/-- an item of an owned list -/
theorem w_ixO {pin : Option V} {i : Nat} {xs : List α} {k : α → Prop} (h : Γ[i]? = some (.own (dList (d := d)) (oList (d := d)) pin xs)) (hk : R C tb Γ dInt fun i => ∃ x, atI xs i = some x ∧ k x) : W C (tOp (rIxL C.K) (tVar i) tb) Γ d k := fun e F σ H s Q q => by
  obtain ⟨L, kw, sl⟩ := id s
  obtain ⟨o, L1, Li, L2, e1, e2, ⟨v, rfl, _, a, vs, rfl, e3, r⟩, _⟩ := sl.get h
  have ha : H a = some (.lst vs) := (kw.ow (a, .lst vs) (by rw [e2, e3]; simp)).2.1
  refine ⟨.ref a, e1, hk e F σ H s _ fun v2 F2 H2 j ⟨x, hx, kx⟩ g2 r2 => ?_⟩
  cases (show v2 = .int j from r2)
  obtain ⟨v, hv, rv⟩ := atI_rep r hx
  exact ⟨a, vs, j, v, rfl, rfl, .inl (.inl (g2.hh0 _ _ ha)), hv, q _ F2 H2 x kx g2 (d.mono g2.ff rv)⟩
/-- .. read for the moment -/
theorem r_ix {k : α → Prop} (h : R C ta Γ (dList (d := d)) fun xs => R C tb Γ dInt fun i => ∃ x, atI xs i = some x ∧ k x) : R C (tOp (rIxL C.K) ta tb) Γ d k := fun e F σ H s Q q => h e F σ H s _ fun v1 F1 H1 xs h1 g1 ⟨a, vs, e1, hs, r⟩ => h1 e F1 σ H1 (s.grow g1) _ fun v2 F2 H2 i ⟨x, hx, kx⟩ g2 r2 => by
  subst e1
  cases (show v2 = .int i from r2)
  obtain ⟨v, hv, rv⟩ := atI_rep r hx
  exact ⟨a, vs, i, v, rfl, rfl, g2.hh0.seq hs, hv, q _ F2 H2 x kx (g1.trans0 g2) (d.mono g2.hh0 rv)⟩

/-! membership -/
class Flat (α : Type) [d : Dat α] where
  enc : α → V
  isEnc : ∀ {C : GCtx} {F : Hp} {v : V} {x : α}, d.rep C F v x → v = enc x
  flat : ∀ x, flatV (enc x) = true
  eqv : ∀ x y, eqV (enc x) (enc y) = true ↔ x = y
instance fInt : Flat Int := ⟨V.int, fun h => h, fun _ => rfl, fun x y => by simp [eqV]⟩
instance fStr : Flat Str := ⟨V.str, fun h => h, fun _ => rfl, fun x y => by simp [eqV]⟩
theorem Reps.enc [f : @Flat α d] {F : Hp} : ∀ {vs : List V} {xs : List α}, Reps d C F vs xs → vs = xs.map f.enc
  | [], [], _ => rfl
  | _ :: _, _ :: _, h => by rw [Reps.enc h.2, f.isEnc h.1]; rfl
  | [], _ :: _, h => h.elim
  | _ :: _, [], h => h.elim
theorem flat_all [f : @Flat α d] (xs : List α) : (xs.map f.enc).all flatV = true := by
  rw [List.all_map, List.all_eq_true]
  exact fun x _ => f.flat x
theorem inV_flat [f : @Flat α d] [DecidableEq α] (x : α) (xs : List α) : inV (f.enc x) (xs.map f.enc) = decide (x ∈ xs) := by
  unfold inV
  rw [List.any_map]
  by_cases h : x ∈ xs
  · rw [decide_eq_true h, List.any_eq_true]
    exact ⟨x, h, (f.eqv x x).mpr rfl⟩
  · rw [decide_eq_false h, List.any_eq_false]
    intro y hy z
    have e := (f.eqv y x).mp z
    subst e
    exact h hy
theorem w_in [f : @Flat α d] [DecidableEq α] {k : Bool → Prop} (h : R C ta Γ d fun x => R C tb Γ (dList (d := d)) fun xs => k (decide (x ∈ xs))) : W C (tOp (rIn C.K false) ta tb) Γ dBool k := fun e F σ H s Q q => h e F σ H s _ fun v1 F1 H1 x h1 g1 r1 => h1 e F1 σ H1 (s.grow g1) _ fun v2 F2 H2 xs kx g2 ⟨a, vs, e1, hs, r⟩ => by
  subst e1
  cases f.isEnc r1
  cases r.enc
  exact ⟨a, _, rfl, .inl hs, f.flat x, flat_all xs, q _ F2 H2 _ kx (g1.trans0 g2) (by rw [inV_flat x xs]; rfl)⟩
theorem w_notin [f : @Flat α d] [DecidableEq α] {k : Bool → Prop} (h : R C ta Γ d fun x => R C tb Γ (dList (d := d)) fun xs => k (!decide (x ∈ xs))) : W C (tOp (rIn C.K true) ta tb) Γ dBool k := fun e F σ H s Q q => h e F σ H s _ fun v1 F1 H1 x h1 g1 r1 => h1 e F1 σ H1 (s.grow g1) _ fun v2 F2 H2 xs kx g2 ⟨a, vs, e1, hs, r⟩ => by
  subst e1
  cases f.isEnc r1
  cases r.enc
  exact ⟨a, _, rfl, .inl hs, f.flat x, flat_all xs, q _ F2 H2 _ kx (g1.trans0 g2) (by rw [inV_flat x xs]; rfl)⟩
theorem w_inT [f : @Flat α d] [DecidableEq α] {k : Bool → Prop} (h : R C ta Γ d fun x => R C tb Γ (dTup (d := d)) fun xs => k (decide (x ∈ xs.l))) : W C (tOp (rIn C.K false) ta tb) Γ dBool k := fun e F σ H s Q q => h e F σ H s _ fun v1 F1 H1 x h1 g1 r1 => h1 e F1 σ H1 (s.grow g1) _ fun v2 F2 H2 xs kx g2 ⟨a, vs, e1, hs, r⟩ => by
  subst e1
  cases f.isEnc r1
  cases r.enc
  exact ⟨a, _, rfl, .inr hs.sq, f.flat x, flat_all xs.l, q _ F2 H2 _ kx (g1.trans0 g2) (by rw [inV_flat x xs.l]; rfl)⟩
theorem w_notinT [f : @Flat α d] [DecidableEq α] {k : Bool → Prop} (h : R C ta Γ d fun x => R C tb Γ (dTup (d := d)) fun xs => k (!decide (x ∈ xs.l))) : W C (tOp (rIn C.K true) ta tb) Γ dBool k := fun e F σ H s Q q => h e F σ H s _ fun v1 F1 H1 x h1 g1 r1 => h1 e F1 σ H1 (s.grow g1) _ fun v2 F2 H2 xs kx g2 ⟨a, vs, e1, hs, r⟩ => by
  subst e1
  cases f.isEnc r1
  cases r.enc
  exact ⟨a, _, rfl, .inr hs.sq, f.flat x, flat_all xs.l, q _ F2 H2 _ kx (g1.trans0 g2) (by rw [inV_flat x xs.l]; rfl)⟩

/-! tuples, lists made -/
theorem Gr.lay {F H : Hp} {p : Addr} {o : HO} (g : Gr F H F H) (hp : H p = none) : Gr F H (upd F p o) (upd H p o) := Wk.lay g hp
theorem w_tup2 {k : α × β → Prop} (h : W C ta Γ d1 fun x => W C tb Γ d2 fun y => k (x, y)) : W C (tTup (tCons ta (tCons tb tNil))) Γ (dPair (d1 := d1) (d2 := d2)) k := fun e F σ H s Q q => h e F σ H s _ fun v1 F1 H1 x h1 g1 r1 => h1 e F1 σ H1 (s.grow g1) _ fun v2 F2 H2 y ky g2 r2 =>
  ⟨show 2 ≤ PySem.sizeLine by decide, fun p hp => by
    have g3 := Gr.lay (o := .tup [v1, v2]) g2.base hp
    exact q _ _ _ (x, y) ky ((g1.trans0 g2).trans0 g3) ⟨p, v1, v2, rfl, .inl upd_same, d1.mono (g2.ff.trans g3.ff) r1, d2.mono g3.ff r2⟩⟩
theorem w_tup3 {k : T3 α β γ → Prop} (h : W C ta Γ d1 fun x => W C tb Γ d2 fun y => W C tc Γ d3 fun z => k ⟨x, y, z⟩) : W C (tTup (tCons ta (tCons tb (tCons tc tNil)))) Γ (dT3 (d1 := d1) (d2 := d2) (d3 := d3)) k := fun e F σ H s Q q => h e F σ H s _ fun v1 F1 H1 x h1 g1 r1 => h1 e F1 σ H1 (s.grow g1) _ fun v2 F2 H2 y h2 g2 r2 =>
  h2 e F2 σ H2 ((s.grow g1).grow g2) _ fun v3 F3 H3 z kz g3 r3 =>
  ⟨show 3 ≤ PySem.sizeLine by decide, fun p hp => by
    have g4 := Gr.lay (o := .tup [v1, v2, v3]) g3.base hp
    exact q _ _ _ ⟨x, y, z⟩ kz (((g1.trans0 g2).trans0 g3).trans0 g4) ⟨p, v1, v2, v3, rfl, .inl upd_same, d1.mono ((g2.ff.trans g3.ff).trans g4.ff) r1, d2.mono (g3.ff.trans g4.ff) r2, d3.mono g4.ff r3⟩⟩
theorem w_tup4 {δ : Type} {d4 : Dat δ} {td : TE} {k : T4 α β γ δ → Prop} (h : W C ta Γ d1 fun x => W C tb Γ d2 fun y => W C tc Γ d3 fun z => W C td Γ d4 fun u => k ⟨x, y, z, u⟩) : W C (tTup (tCons ta (tCons tb (tCons tc (tCons td tNil))))) Γ (dT4 (d1 := d1) (d2 := d2) (d3 := d3) (d4 := d4)) k := fun e F σ H s Q q => h e F σ H s _ fun v1 F1 H1 x h1 g1 r1 => h1 e F1 σ H1 (s.grow g1) _ fun v2 F2 H2 y h2 g2 r2 =>
  h2 e F2 σ H2 ((s.grow g1).grow g2) _ fun v3 F3 H3 z h3 g3 r3 => h3 e F3 σ H3 (((s.grow g1).grow g2).grow g3) _ fun v4 F4 H4 u ku g4 r4 =>
  ⟨show 4 ≤ PySem.sizeLine by decide, fun p hp => by
    have g5 := Gr.lay (o := .tup [v1, v2, v3, v4]) g4.base hp
    exact q _ _ _ ⟨x, y, z, u⟩ ku ((((g1.trans0 g2).trans0 g3).trans0 g4).trans0 g5) ⟨p, v1, v2, v3, v4, rfl, .inl upd_same, d1.mono (((g2.ff.trans g3.ff).trans g4.ff).trans g5.ff) r1, d2.mono ((g3.ff.trans g4.ff).trans g5.ff) r2, d3.mono (g4.ff.trans g5.ff) r3, d4.mono g5.ff r4⟩⟩
/-- items that are alike, for a display -/
def WL (C : GCtx) (ta : TA) (Γ : List Cell) {α : Type} (d : Dat α) (k : List α → Prop) : Prop := ∀ (e : En) (F : Hp) (σ : St) (H : Hp), State C e F σ H Γ → ∀ Q : List V → Hp → Prop, (∀ vs F' H' xs, k xs → Gr F H F' H' → Reps d C F' vs xs → Q vs H') → ta σ H Q
theorem wl_nil {k : List α → Prop} (hk : k []) : WL C tNil Γ d k := fun e F σ H s Q q => q [] F H [] hk s.base trivial
theorem wl_cons {tr : TA} {k : List α → Prop} (h : W C te Γ d fun x => WL C tr Γ d fun xs => k (x :: xs)) : WL C (tCons te tr) Γ d k := fun e F σ H s Q q => h e F σ H s _ fun v F1 H1 x h1 g1 r1 => h1 e F1 σ H1 (s.grow g1) _ fun vs F2 H2 xs kc g2 r2 =>
  q (v :: vs) F2 H2 (x :: xs) kc (g1.trans0 g2) ⟨d.mono g2.ff r1, r2⟩
theorem o_new {F H : Hp} {L : LO} (g : Wk ⟨F, H, []⟩ F [] H) {p : Addr} {vs : List V} {xs : List α} (hp : H p = none) (r : Reps d C F vs xs) : Wk ⟨F, H, []⟩ F [(p, .lst vs)] (upd H p (.lst vs)) ∧ (oList (d := d)).orep C F (.ref p) xs [(p, .lst vs)] :=
  ⟨g.own hp (fun _ z => by cases z), p, vs, rfl, rfl, r⟩
theorem o_lst {tl : TA} {k : List α → Prop} (h : WL C tl Γ d fun xs => xs.length ≤ PySem.sizeLine ∧ k xs) : O C (tLst tl) Γ (oList (d := d)) k := fun e F σ H s Q q => h e F σ H s _ fun vs F' H' xs ⟨hl, kx⟩ g r =>
  ⟨by rw [r.len]; exact hl, fun p hp => by
    obtain ⟨h1, h2⟩ := o_new (L := []) g.base hp r
    have h3 := g.trans h1
    exact q _ F' _ [(p, .lst vs)] xs kx (by simpa using h3) h2⟩
theorem o_nil {k : List α → Prop} (hk : k []) : O C (tLst tNil) Γ (oList (d := d)) k := o_lst (wl_nil ⟨Nat.zero_le _, hk⟩)
/-- list(xs) -/
theorem o_listOf {k : List α → Prop} (h : W C ta Γ (dList (d := d)) k) : O C (tCB (fun xs H Q => ∃ p ys, xs = [.ref p] ∧ (SqL C.K H p ys ∨ SqT C.K H p ys) ∧ ∀ l, H l = none → Q (.ref l) (upd H l (.lst ys))) (tCons ta tNil)) Γ (oList (d := d)) k := fun e F σ H s Q q => h e F σ H s _ fun v F' H' xs kx g ⟨a, vs, e1, hs, r⟩ => by
  subst e1
  refine ⟨a, vs, rfl, .inl (g.fh.seq hs), fun l hl => ?_⟩
  obtain ⟨h1, h2⟩ := o_new (L := []) g.base hl r
  exact q _ F' _ _ xs kx (by simpa using g.trans h1) h2
theorem o_listOfT {k : List α → Prop} (h : W C ta Γ (dTup (d := d)) fun xs => k xs.l) : O C (tCB (fun xs H Q => ∃ p ys, xs = [.ref p] ∧ (SqL C.K H p ys ∨ SqT C.K H p ys) ∧ ∀ l, H l = none → Q (.ref l) (upd H l (.lst ys))) (tCons ta tNil)) Γ (oList (d := d)) k := fun e F σ H s Q q => h e F σ H s _ fun v F' H' xs kx g ⟨a, vs, e1, hs, r⟩ => by
  subst e1
  refine ⟨a, vs, rfl, .inr (hs.mono g.fh).sq, fun l hl => ?_⟩
  obtain ⟨h1, h2⟩ := o_new (L := []) g.base hl r
  exact q _ F' _ _ xs.l kx (by simpa using g.trans h1) h2
/-- list(xs), xs owned, its items standing still -/
theorem o_listOfO [i : @Imm α d] {k : List α → Prop} (h : R C ta Γ (dList (d := d)) k) : O C (tCB (fun xs H Q => ∃ p ys, xs = [.ref p] ∧ (SqL C.K H p ys ∨ SqT C.K H p ys) ∧ ∀ l, H l = none → Q (.ref l) (upd H l (.lst ys))) (tCons ta tNil)) Γ (oList (d := d)) k := fun e F σ H s Q q => h e F σ H s _ fun v F' H' xs kx g ⟨a, vs, e1, hs, r⟩ => by
  subst e1
  refine ⟨a, vs, rfl, .inl hs, fun l hl => ?_⟩
  obtain ⟨h1, h2⟩ := o_new (L := []) g.base hl (r.imm g.tp)
  exact q _ F' _ _ xs kx (by simpa using g.trans h1) h2
/-- tuple(xs) -/
theorem w_tupOf {k : Tup α → Prop} (h : W C ta Γ (dList (d := d)) fun xs => k ⟨xs⟩) : W C (tCB (fun xs H Q => ∃ p ys, xs = [.ref p] ∧ ((SqL C.K H p ys ∧ ∀ l, H l = none → Q (.ref l) (upd H l (.tup ys))) ∨ (SqT C.K H p ys ∧ Q (.ref p) H))) (tCons ta tNil)) Γ (dTup (d := d)) k := fun e F σ H s Q q => h e F σ H s _ fun v F' H' xs kx g ⟨a, vs, e1, hs, r⟩ => by
  subst e1
  refine ⟨a, vs, rfl, .inl ⟨g.fh.seq hs, fun l hl => ?_⟩⟩
  have g4 := Gr.lay (o := .tup vs) g.base hl
  exact q _ _ _ ⟨xs⟩ kx (g.trans0 g4) ⟨l, vs, rfl, .inl upd_same, r.mono g4.ff⟩
end
end G

/-! G3: statements, loops, calls, comprehensions. -/
namespace G
open PySem L2

/-! ### the state, more -/
section
variable {C : GCtx} {e : En} {F F' : Hp} {σ : St} {H H' : Hp} {Γ : List Cell}
theorem State.mut {α : Type} {d : Dat α} {od : OD α} {x : α} {i : Nat} {pin : Option V} (s : State C e F σ H Γ) (h : Γ[i]? = some (.own d od pin x)) : ∃ v Li rest, σ[i]? = some (some v) ∧ od.orep C F v x Li ∧ Wk e F (Li ++ rest) H ∧
    ∀ F' H' Li' x', Same F F' → Wk e F' (Li' ++ rest) H' → od.orep C F' v x' Li' → State C e F' σ H' (Γ.set i (.own d od pin x')) := by
  obtain ⟨L, k, sl⟩ := s
  obtain ⟨o, L1, Li, L2, e1, e2, ⟨v, rfl, hp, r⟩, f⟩ := sl.get h
  subst e2
  refine ⟨v, Li, L1 ++ L2, e1, r, k.front, fun F' H' Li' x' s' k' r' => ⟨L1 ++ Li' ++ L2, k'.back, ?_⟩⟩
  have q := f F' (some v) (.own d od pin x') Li' s' ⟨v, rfl, hp, r'⟩
  have z : σ.set i (some v) = σ := by
    apply List.ext_getElem?
    intro j
    by_cases hj : i = j
    · subst hj
      obtain ⟨hlt, hv⟩ := List.getElem?_eq_some_iff.mp e1
      rw [List.getElem?_set_self hlt, e1]
    · rw [List.getElem?_set_ne hj]
  rw [z] at q
  exact q
/-- what is owned is frozen -/
theorem State.frz {α : Type} {d : Dat α} {od : OD α} {x : α} {i : Nat} (s : State C e F σ H Γ) (hM : e.M = []) (h : Γ[i]? = some (.own d od none x)) : ∃ F', Same F F' ∧ State C e F' σ H (Γ.set i (.val d x)) := by
  obtain ⟨L, k, sl⟩ := s
  obtain ⟨o, L1, Li, L2, e1, e2, ⟨v, rfl, hp, r⟩, f⟩ := sl.get h
  subst e2
  have kf := k.front
  have ff : ∀ p ∈ Li, F p.1 = none := fun p hp => (kf.ow p (List.mem_append_left _ hp)).1
  have nd : (Li.map Prod.fst).Nodup := by
    have := kf.nd
    rw [List.map_append] at this
    exact (List.nodup_append.mp this).1
  have k2 := kf.freeze fun p _ z => by rw [hM] at z; cases z
  have sm := same_plus ff nd
  refine ⟨plus F Li, sm, L1 ++ L2, k2, ?_⟩
  have q := f (plus F Li) (some v) (.val d x) [] sm ⟨rfl, v, rfl, od.view r sm (plus_get ff nd)⟩
  have z : σ.set i (some v) = σ := by
    apply List.ext_getElem?
    intro j
    by_cases hj : i = j
    · subst hj
      obtain ⟨hlt, hv⟩ := List.getElem?_eq_some_iff.mp e1
      rw [List.getElem?_set_self hlt, e1]
    · rw [List.getElem?_set_ne hj]
  rw [z, List.append_nil] at q
  exact q
end

/-! ### statements -/
structure Ks where
  nx : List Cell → Prop
  rt : Cell → List Cell → Prop
  bk : List Cell → Prop
  ct : List Cell → Prop
structure Cont (C : GCtx) (e : En) (k : Ks) (D : Ends) : Prop where
  nx : ∀ F σ H Γ, k.nx Γ → State C e F σ H Γ → D.nx σ H
  rt : ∀ F σ H Γ v c L L', k.rt c Γ → Wk e F (L ++ L') H → CellOk C F (some v) c L → Slots C F σ Γ L' → D.rt v H
  bk : ∀ F σ H Γ, k.bk Γ → State C e F σ H Γ → D.bk σ H
  ct : ∀ F σ H Γ, k.ct Γ → State C e F σ H Γ → D.ct σ H
def Z (C : GCtx) (ts : TS) (Γ : List Cell) (k : Ks) : Prop := ∀ (e : En) (F : Hp) (σ : St) (H : Hp) (D : Ends), e.M = [] → State C e F σ H Γ → Cont C e k D → ts D σ H
/-- a target takes x -/
def A (C : GCtx) (g : TG) (Γ : List Cell) {α : Type} (d : Dat α) (x : α) (k : List Cell → Prop) : Prop := ∀ (e : En) (F : Hp) (σ : St) (H : Hp) (v : V), State C e F σ H Γ → d.rep C F v x → ∀ Q : St → Hp → Prop, (∀ σ' Γ', k Γ' → State C e F σ' H Γ' → Q σ' H) → g v σ H Q

section
variable {C : GCtx} {Γ : List Cell} {te ta tb tc : TE} {t u : TT} {α β γ δ : Type} {d1 : Dat α} {d : Dat α} {d2 : Dat β} {d3 : Dat γ} {d4 : Dat δ} {k : Ks} {t1 t2 ts : TS} {g g1 g2 g3 g4 : TG}

theorem z_seq (h : Z C t1 Γ { k with nx := fun Γ' => Z C t2 Γ' k }) : Z C (tSeq t1 t2) Γ k := fun e F σ H D hM s c =>
  h e F σ H { D with nx := t2 D } hM s ⟨fun F σ H Γ q s' => q e F σ H D hM s' c, c.rt, c.bk, c.ct⟩
theorem z_next (h : k.nx Γ) : Z C tNext Γ k := fun e F σ H D hM s c => c.nx F σ H Γ h s
theorem z_break (h : k.bk Γ) : Z C tBreak Γ k := fun e F σ H D hM s c => c.bk F σ H Γ h s
theorem z_cont (h : k.ct Γ) : Z C tCont Γ k := fun e F σ H D hM s c => c.ct F σ H Γ h s
theorem z_mono {k' : Ks} (h : Z C ts Γ k') (n : ∀ Γ, k'.nx Γ → k.nx Γ) (r : ∀ c Γ, k'.rt c Γ → k.rt c Γ) (b : ∀ Γ, k'.bk Γ → k.bk Γ) (c : ∀ Γ, k'.ct Γ → k.ct Γ) : Z C ts Γ k := fun e F σ H D hM s cc =>
  h e F σ H D hM s ⟨fun F σ H Γ q => cc.nx F σ H Γ (n Γ q), fun F σ H Γ v x L L' q => cc.rt F σ H Γ v x L L' (r x Γ q), fun F σ H Γ q => cc.bk F σ H Γ (b Γ q), fun F σ H Γ q => cc.ct F σ H Γ (c Γ q)⟩
/-- what is owned may be frozen anywhere -/
theorem z_frz {od : @OD α d} {x : α} (i : Nat) (hi : Γ[i]? = some (.own d od none x)) (h : Z C ts (Γ.set i (.val d x)) k) : Z C ts Γ k := fun e F σ H D hM s c => by
  obtain ⟨F', sm, s'⟩ := s.frz hM hi
  exact h e F' σ H D hM s' c
theorem z_forget {c0 : Cell} (i : Nat) (hi : Γ[i]? = some c0) (h : Z C ts (Γ.set i .no) k) : Z C ts Γ k := fun e F σ H D hM s c => h e F σ H D hM (s.hide hi) c

/-! targets -/
theorem a_name {x : α} {i : Nat} {c0 : Cell} {kn : List Cell → Prop} (hi : Γ[i]? = some c0) (h : kn (Γ.set i (.val d x))) : A C (gName i) Γ d x kn := fun e F σ H v s r Q q =>
  q (σ.set i (some v)) _ h (s.set (c' := .val d x) (L' := []) hi s.base ⟨rfl, v, rfl, r⟩)
theorem a_pair {x : α × β} {n : Nat} {kn : List Cell → Prop} (hn : n = 2) (h : A C g1 Γ d1 x.1 fun Γ1 => A C g2 Γ1 d2 x.2 kn) : A C (gTup C.K n (gCons g1 (gCons g2 gNil))) Γ (dPair (d1 := d1) (d2 := d2)) x kn := fun e F σ H v s ⟨a, v1, v2, e1, ht, r1, r2⟩ Q q => by
  subst e1 hn
  refine ⟨a, [v1, v2], rfl, (ht.mono s.fh).sq, rfl, v1, [v2], rfl, h e F σ H v1 s r1 _ fun σ1 Γ1 h1 st1 => ⟨v2, [], rfl, h1 e F σ1 H v2 st1 r2 _ fun σ2 Γ2 h2 st2 => ⟨rfl, q σ2 Γ2 h2 st2⟩⟩⟩
theorem a_T3 {x : T3 α β γ} {n : Nat} {kn : List Cell → Prop} (hn : n = 3) (h : A C g1 Γ d1 x.a fun Γ1 => A C g2 Γ1 d2 x.b fun Γ2 => A C g3 Γ2 d3 x.c kn) : A C (gTup C.K n (gCons g1 (gCons g2 (gCons g3 gNil)))) Γ (dT3 (d1 := d1) (d2 := d2) (d3 := d3)) x kn := fun e F σ H v s ⟨a, v1, v2, v3, e1, ht, r1, r2, r3⟩ Q q => by
  subst e1 hn
  refine ⟨a, [v1, v2, v3], rfl, (ht.mono s.fh).sq, rfl, v1, [v2, v3], rfl, h e F σ H v1 s r1 _ fun σ1 Γ1 h1 st1 => ⟨v2, [v3], rfl, h1 e F σ1 H v2 st1 r2 _ fun σ2 Γ2 h2 st2 => ⟨v3, [], rfl, h2 e F σ2 H v3 st2 r3 _ fun σ3 Γ3 h3 st3 => ⟨rfl, q σ3 Γ3 h3 st3⟩⟩⟩⟩
theorem a_T4 {x : T4 α β γ δ} {n : Nat} {kn : List Cell → Prop} (hn : n = 4) (h : A C g1 Γ d1 x.a fun Γ1 => A C g2 Γ1 d2 x.b fun Γ2 => A C g3 Γ2 d3 x.c fun Γ3 => A C g4 Γ3 d4 x.d kn) : A C (gTup C.K n (gCons g1 (gCons g2 (gCons g3 (gCons g4 gNil))))) Γ (dT4 (d1 := d1) (d2 := d2) (d3 := d3) (d4 := d4)) x kn := fun e F σ H v s ⟨a, v1, v2, v3, v4, e1, ht, r1, r2, r3, r4⟩ Q q => by
  subst e1 hn
  refine ⟨a, [v1, v2, v3, v4], rfl, (ht.mono s.fh).sq, rfl, v1, [v2, v3, v4], rfl, h e F σ H v1 s r1 _ fun σ1 Γ1 h1 st1 => ⟨v2, [v3, v4], rfl, h1 e F σ1 H v2 st1 r2 _ fun σ2 Γ2 h2 st2 => ⟨v3, [v4], rfl, h2 e F σ2 H v3 st2 r3 _ fun σ3 Γ3 h3 st3 =>
    ⟨v4, [], rfl, h3 e F σ3 H v4 st3 r4 _ fun σ4 Γ4 h4 st4 => ⟨rfl, q σ4 Γ4 h4 st4⟩⟩⟩⟩⟩

/-! assignments -/
theorem z_set {i : Nat} {c0 : Cell} (hi : Γ[i]? = some c0) (h : W C te Γ d fun x => k.nx (Γ.set i (.val d x))) : Z C (tAsg te (gName i)) Γ k := fun e F σ H D hM s c => h e F σ H s _ fun v F' H' x kx g r =>
  c.nx F' _ H' _ kx (s.set (c' := .val d x) (L' := []) hi g ⟨rfl, v, rfl, r⟩)
theorem z_setG (h : W C te Γ d fun x => A C g Γ d x k.nx) : Z C (tAsg te g) Γ k := fun e F σ H D hM s c => h e F σ H s _ fun v F' H' x kx gr r =>
  kx e F' σ H' v (s.grow gr) r _ fun σ2 Γ2 k2 s2 => c.nx F' σ2 H' Γ2 k2 s2
theorem z_setO {od : @OD α d} {i : Nat} {c0 : Cell} (hi : Γ[i]? = some c0) (h : O C te Γ od fun x => k.nx (Γ.set i (.own d od none x))) : Z C (tAsg te (gName i)) Γ k := fun e F σ H D hM s c => h e F σ H s _ fun v F' H' L' x kx g r =>
  c.nx F' _ H' _ kx (s.set (c' := .own d od none x) hi g ⟨v, rfl, fun _ z => (nomatch z), r⟩)
/-- y = x, both owned from here on by y -/
theorem z_move {od : @OD α d} {x : α} {i j : Nat} {c0 : Cell} (hi : Γ[i]? = some (.own d od none x)) (hj : (Γ.set i .no)[j]? = some c0) (h : k.nx ((Γ.set i .no).set j (.own d od none x))) : Z C (tAsg (tVar i) (gName j)) Γ k := fun e F σ H D hM s c => by
  obtain ⟨v, Li, rest, e1, r, kw, f⟩ := s.mut hi
  refine ⟨v, e1, c.nx F _ H _ h ?_⟩
  obtain ⟨L, k0, sl⟩ := s
  obtain ⟨o, L1, Li', L2, e2, e3, ⟨v', e4, _, r'⟩, f'⟩ := sl.get hi
  rw [e1] at e2
  cases (Option.some.inj e2)
  cases e4
  subst e3
  have sl2 := f' F (some v) .no [] (Same.refl F) rfl
  have z : σ.set i (some v) = σ := by
    apply List.ext_getElem?
    intro j
    by_cases hj : i = j
    · subst hj
      obtain ⟨hlt, hv⟩ := List.getElem?_eq_some_iff.mp e1
      rw [List.getElem?_set_self hlt, e1]
    · rw [List.getElem?_set_ne hj]
  rw [z, List.append_nil] at sl2
  obtain ⟨o3, M1, Mi, M2, e5, e6, _, f3⟩ := sl2.get hj
  have q := f3 F (some v) (.own d od none x) Li' (Same.refl F) ⟨v, rfl, fun _ z => (nomatch z), r'⟩
  refine ⟨M1 ++ Li' ++ M2, ?_, q⟩
  have k1 := k0.front
  rw [e6] at k1
  have k2 : Wk e F ((Li' ++ M1) ++ Mi ++ M2) H := by simpa [List.append_assoc] using k1
  have k3 : Wk e F (Li' ++ (M1 ++ M2)) H := by simpa [List.append_assoc] using k2.drop
  exact k3.back
theorem z_drop {kt : α → Prop} (h : R C te Γ d fun _ => k.nx Γ) : Z C (tDrop te) Γ k := fun e F σ H D hM s c => h e F σ H s _ fun v F' H' x kx g r => c.nx F' σ H' Γ kx (s.grow g)
theorem z_aug {i : Nat} {f : Int → Int → Int} {x : Int} (hi : Γ[i]? = some (.val dInt x)) (h : R C te Γ dInt fun y => k.nx (Γ.set i (.val dInt (f x y)))) : Z C (tAug i te (ipI f)) Γ k := fun e F σ H D hM s c => by
  obtain ⟨v, e1, r⟩ := s.val hi
  cases (show v = .int x from r)
  refine ⟨.int x, e1, h e F σ H s _ fun v2 F' H' y ky g r2 => ?_⟩
  cases (show v2 = .int y from r2)
  exact ⟨x, y, rfl, rfl, c.nx F' _ H' _ ky (s.set (c' := .val dInt (f x y)) (L' := []) hi g ⟨rfl, _, rfl, rfl⟩)⟩
theorem z_if (h : T C t Γ fun b => (b = true → Z C t1 Γ k) ∧ (b = false → Z C t2 Γ k)) : Z C (tIfS t t1 t2) Γ k := fun e F σ H D hM s c => h e F σ H s _ fun b F' H' kb g => by
  cases b with
  | true => exact kb.1 rfl e F' σ H' D hM (s.grow g) c
  | false => exact kb.2 rfl e F' σ H' D hM (s.grow g) c
/-- both ways meet in J -/
theorem z_if' {b : Bool} (h : T C t Γ (· = b)) (h1 : b = true → Z C t1 Γ k) (h2 : b = false → Z C t2 Γ k) : Z C (tIfS t t1 t2) Γ k := z_if (t_mono h fun x e => by subst e; exact ⟨h1, h2⟩)
theorem z_join (J : List Cell → Prop) (h : Z C t1 Γ { k with nx := J }) (h2 : ∀ Γ', J Γ' → Z C t2 Γ' k) : Z C (tSeq t1 t2) Γ k := z_seq (z_mono h h2 (fun _ _ q => q) (fun _ q => q) fun _ q => q)
theorem z_ret (h : W C te Γ d fun x => k.rt (.val d x) Γ) : Z C (tRet te) Γ k := fun e F σ H D hM s c => h e F σ H s _ fun v F' H' x kx g r => by
  obtain ⟨L, kw, sl⟩ := s
  exact c.rt F' σ H' Γ v (.val d x) [] L kx (kw.trans0 g) ⟨rfl, v, rfl, r⟩ (sl.mono g.ff)
theorem z_retO {od : @OD α d} (h : O C te Γ od fun x => k.rt (.own d od none x) Γ) : Z C (tRet te) Γ k := fun e F σ H D hM s c => h e F σ H s _ fun v F' H' L' x kx g r => by
  obtain ⟨L, kw, sl⟩ := s
  exact c.rt F' σ H' Γ v (.own d od none x) L' L kx (kw.trans g) ⟨v, rfl, fun _ z => (nomatch z), r⟩ (sl.mono g.ff)
theorem z_retV {od : @OD α d} {i : Nat} {x : α} (hi : Γ[i]? = some (.own d od none x)) (h : k.rt (.own d od none x) (Γ.set i .no)) : Z C (tRet (tVar i)) Γ k := fun e F σ H D hM s c => by
  obtain ⟨L, k0, sl⟩ := s
  obtain ⟨o, L1, Li, L2, e1, e2, ⟨v, rfl, _, r⟩, f⟩ := sl.get hi
  subst e2
  refine ⟨v, e1, ?_⟩
  have sl2 := f F (some v) .no [] (Same.refl F) rfl
  rw [List.append_nil] at sl2
  exact c.rt F _ H _ v (.own d od none x) Li (L1 ++ L2) h k0.front ⟨v, rfl, fun _ z => (nomatch z), r⟩ sl2
theorem z_retN (h : k.rt (.val dUnit ()) Γ) : Z C tRetN Γ k := fun e F σ H D hM s c => by
  obtain ⟨L, kw, sl⟩ := s
  exact c.rt F σ H Γ .non (.val dUnit ()) [] L h kw ⟨rfl, .non, rfl, rfl⟩ sl

/-! stores to what is owned -/
theorem z_append {pin : Option V} {i : Nat} {xs : List α} (hi : Γ[i]? = some (.own (dList (d := d)) (oList (d := d)) pin xs)) (h : W C te Γ d fun y => xs.length < PySem.sizeLine ∧ k.nx (Γ.set i (.own (dList (d := d)) (oList (d := d)) pin (xs ++ [y])))) :
    Z C (tDrop (tBM C.K "list" rAppend (tVar i) (tCons te tNil))) Γ k := fun e F σ H D hM s c => by
  obtain ⟨v0, _, _, e1, ⟨a0, vs0, rfl, rfl, _⟩, kw0, _⟩ := s.mut hi
  have ha0 : H a0 = some (.lst vs0) := (kw0.ow (a0, .lst vs0) (by simp)).2.1
  refine ⟨.ref a0, e1, .inl ⟨rfl, vs0, .inl (.inl ha0)⟩, h e F σ H s _ fun w F' H' y ⟨hl, ky⟩ g rw' => ?_⟩
  obtain ⟨v, Li, rest, e2, ⟨a, vs, rfl, rfl, r⟩, kw, f⟩ := (s.grow g).mut hi
  rw [e1] at e2
  cases (Option.some.inj e2)
  have ha : H' a0 = some (.lst vs) := (kw.ow (a0, .lst vs) (by simp)).2.1
  refine ⟨a0, vs, w, rfl, rfl, ha, by rw [r.len]; exact hl, ?_⟩
  exact c.nx F' σ _ _ ky (f F' _ [(a0, .lst (vs ++ [w]))] (xs ++ [y]) (Same.refl F') (kw.put (fun _ z => by cases z)) ⟨a0, _, rfl, rfl, r.append (Reps.one rw')⟩)
/-- y = xs.pop() -/
theorem z_pop {pin : Option V} {i j : Nat} {xs : List α} {y : α} {c0 : Cell} (hi : Γ[i]? = some (.own (dList (d := d)) (oList (d := d)) pin (xs ++ [y]))) (hj : (Γ.set i (.own (dList (d := d)) (oList (d := d)) pin xs))[j]? = some c0)
    (h : k.nx ((Γ.set i (.own (dList (d := d)) (oList (d := d)) pin xs)).set j (.val d y))) : Z C (tAsg (tBM0 C.K "list" rPop (tVar i)) (gName j)) Γ k := fun e F σ H D hM s c => by
  obtain ⟨v, _, rest, e1, ⟨a, vs, rfl, rfl, r⟩, kw, f⟩ := s.mut hi
  have ha : H a = some (.lst vs) := (kw.ow (a, .lst vs) (by simp)).2.1
  have hl : vs.length = xs.length + 1 := by rw [r.len]; simp
  have hx : (xs ++ [y])[vs.length - 1]? = some y := by rw [hl]; simp
  obtain ⟨w, hw, rw'⟩ := r.get hx
  refine ⟨.ref a, e1, .inl ⟨rfl, vs, .inl (.inl ha)⟩, a, vs, w, rfl, rfl, ha, hw, ?_⟩
  have s2 := f F _ [(a, .lst vs.dropLast)] xs (Same.refl F) (kw.put (fun _ z => by cases z)) ⟨a, _, rfl, rfl, by
    have q := r.take xs.length
    rw [List.take_left] at q
    rw [List.dropLast_eq_take, hl]
    exact q⟩
  exact c.nx F _ _ _ h (s2.set (c' := .val d y) (L' := []) hj s2.base ⟨rfl, w, rfl, rw'⟩)
/-- xs[i] = e -/
theorem z_setIx {pin : Option V} {i : Nat} {xs : List α} (hi : Γ[i]? = some (.own (dList (d := d)) (oList (d := d)) pin xs)) (h : W C te Γ d fun y => R C tb Γ dInt fun n => ∃ j, ixN xs.length n = some j ∧ k.nx (Γ.set i (.own (dList (d := d)) (oList (d := d)) pin (xs.set j y)))) :
    Z C (tAsg te (gSub (tVar i) tb rSetL)) Γ k := fun e F σ H D hM s c => h e F σ H s _ fun w F1 H1 y hy g1 rw1 => by
  obtain ⟨v0, _, _, e1, ⟨a0, vs0, rfl, rfl, _⟩, kw0, _⟩ := (s.grow g1).mut hi
  refine ⟨.ref a0, e1, hy e F1 σ H1 (s.grow g1) _ fun v2 F2 H2 n ⟨j, hj, kj⟩ g2 r2 => ?_⟩
  cases (show v2 = .int n from r2)
  obtain ⟨v, Li, rest, e2, ⟨a, vs, rfl, rfl, r⟩, kw, f⟩ := ((s.grow g1).grow g2).mut hi
  rw [e1] at e2
  cases (Option.some.inj e2)
  have ha : H2 a0 = some (.lst vs) := (kw.ow (a0, .lst vs) (by simp)).2.1
  refine ⟨a0, vs, n, j, rfl, rfl, ha, by rw [r.len]; exact hj, ?_⟩
  exact c.nx F2 σ _ _ kj (f F2 _ [(a0, .lst (vs.set j w))] (xs.set j y) (Same.refl F2) (kw.put (fun _ z => by cases z)) ⟨a0, _, rfl, rfl, r.set j (d.mono g2.ff rw1)⟩)

/-! loops -/
theorem Wk.out {e : En} {F1 F : Hp} {L1 L : LO} {H1 H : Hp} (a : Wk e F1 L1 H1) (b : Wk ⟨F1, e.H0, e.M⟩ F L H) : Wk e F L H :=
  ⟨a.ff.trans b.ff, b.hh, b.th, b.fh, fun x h h' => b.nw x h (a.nw x h h'), b.tp, b.ow, b.nd⟩
theorem Wk.into {e : En} {F : Hp} {L : LO} {H : Hp} (a : Wk e F L H) : Wk ⟨F, e.H0, e.M⟩ F L H :=
  ⟨Same.refl _, a.hh, a.th, a.fh, fun _ _ h => h, a.tp, a.ow, a.nd⟩
theorem State.into {e : En} {F : Hp} {σ : St} {H : Hp} (s : State C e F σ H Γ) : State C ⟨F, e.H0, e.M⟩ F σ H Γ := let ⟨L, k, sl⟩ := s; ⟨L, k.into, sl⟩
theorem State.out {e : En} {F1 F : Hp} {L1 : LO} {H1 : Hp} {σ : St} {H : Hp} (a : Wk e F1 L1 H1) (s : State C ⟨F1, e.H0, e.M⟩ F σ H Γ) : State C e F σ H Γ := let ⟨L, k, sl⟩ := s; ⟨L, a.out k, sl⟩
theorem State.ff {e : En} {F : Hp} {σ : St} {H : Hp} (s : State C e F σ H Γ) : Same e.F0 F := let ⟨_, k, _⟩ := s; k.ff
theorem Cont.into {e : En} {F1 : Hp} {L1 : LO} {H1 : Hp} {D : Ends} (a : Wk e F1 L1 H1) (c : Cont C e k D) : Cont C ⟨F1, e.H0, e.M⟩ k D :=
  ⟨fun F σ H Γ q s => c.nx F σ H Γ q (s.out a), fun F σ H Γ v x L L' q kw => c.rt F σ H Γ v x L L' q (a.out kw), fun F σ H Γ q s => c.bk F σ H Γ q (s.out a), fun F σ H Γ q s => c.ct F σ H Γ q (s.out a)⟩
/-- what a loop asks of its body -/
def Body (C : GCtx) (g : TG) (ts : TS) {α : Type} (d : Dat α) (k : Ks) (get : Nat → Option α) (n : Nat) (Γ : List Cell) : Prop :=
  ∃ I : Nat → List Cell → Prop, I 0 Γ ∧ (∀ i x Γ', get i = some x → I i Γ' → A C g Γ' d x fun Γ2 => Z C ts Γ2 { nx := I (i + 1), ct := I (i + 1), bk := k.nx, rt := k.rt }) ∧ ∀ Γ', I n Γ' → k.nx Γ'
theorem z_for {tl : TE} (h : W C tl Γ (dList (d := d)) fun xs => Body C g ts d k (fun i => xs[i]?) xs.length Γ) : Z C (tFor (iList C.K tl) g ts) Γ k := fun e F σ H D hM s c => h e F σ H s _ fun v F1 H1 xs ⟨I, h0, hs, hd⟩ g1 ⟨a, vs, e1, hq, r⟩ => by
  subst e1
  have s1 := s.grow g1
  obtain ⟨L1, kw1, _⟩ := id s1
  have c1 := c.into kw1
  refine ⟨a, rfl, ⟨vs, g1.fh.seq hq⟩, for_list (K := C.K) (a := a) (xs := vs) (fun i σ H => ∃ F' Γ', State C ⟨F1, e.H0, e.M⟩ F' σ H Γ' ∧ I i Γ') ⟨F1, Γ, s1.into, h0⟩ (fun i σ H _ ⟨F', Γ', st, _⟩ => (st.ff.trans st.fh).seq hq) (fun i w σ H hw ⟨F', Γ', st, hi⟩ => ?_) fun σ H ⟨F', Γ', st, hi⟩ => ?_⟩
  · obtain ⟨x, hx, rx⟩ := r.getV hw
    refine hs i x Γ' hx hi _ F' σ H w st (d.mono st.ff rx) _ fun σ2 Γ2 h2 st2 => ?_
    exact h2 ⟨F1, e.H0, e.M⟩ F' σ2 H _ hM st2 ⟨fun F3 σ3 H3 Γ3 k3 st3 => ⟨F3, Γ3, st3, k3⟩, c1.rt, c1.nx, fun F3 σ3 H3 Γ3 k3 st3 => ⟨F3, Γ3, st3, k3⟩⟩
  · rw [r.len] at hi
    exact c1.nx F' σ H Γ' (hd Γ' hi) st
theorem z_forT {tl : TE} (h : W C tl Γ (dTup (d := d)) fun xs => Body C g ts d k (fun i => xs.l[i]?) xs.l.length Γ) : Z C (tFor (iTup C.K tl) g ts) Γ k := fun e F σ H D hM s c => h e F σ H s _ fun v F1 H1 xs ⟨I, h0, hs, hd⟩ g1 ⟨a, vs, e1, hq, r⟩ => by
  subst e1
  have s1 := s.grow g1
  obtain ⟨L1, kw1, _⟩ := id s1
  have c1 := c.into kw1
  refine ⟨a, rfl, ⟨vs, (hq.mono g1.fh).sq⟩, for_tup (K := C.K) (a := a) (xs := vs) (fun i σ H => ∃ F' Γ', State C ⟨F1, e.H0, e.M⟩ F' σ H Γ' ∧ I i Γ') ⟨F1, Γ, s1.into, h0⟩ (fun i σ H _ ⟨F', Γ', st, _⟩ => (hq.mono (st.ff.trans st.fh)).sq) (fun i w σ H hw ⟨F', Γ', st, hi⟩ => ?_) fun σ H ⟨F', Γ', st, hi⟩ => ?_⟩
  · obtain ⟨x, hx, rx⟩ := r.getV hw
    refine hs i x Γ' hx hi _ F' σ H w st (d.mono st.ff rx) _ fun σ2 Γ2 h2 st2 => ?_
    exact h2 ⟨F1, e.H0, e.M⟩ F' σ2 H _ hM st2 ⟨fun F3 σ3 H3 Γ3 k3 st3 => ⟨F3, Γ3, st3, k3⟩, c1.rt, c1.nx, fun F3 σ3 H3 Γ3 k3 st3 => ⟨F3, Γ3, st3, k3⟩⟩
  · rw [r.len] at hi
    exact c1.nx F' σ H Γ' (hd Γ' hi) st
/-- lo, lo + 1, .. (n of them) -/
def rng (lo : Int) (n : Nat) (i : Nat) : Option Int := if i < n then some (lo + i) else none
theorem for_rng {lo : Int} {n : Nat} {e : En} {F : Hp} {σ : St} {H : Hp} {D : Ends} (hM : e.M = []) (s : State C e F σ H Γ) (c : Cont C e k D) (h : Body C g ts dInt k (rng lo n) n Γ) : ∃ W : Nat → Nat → St → Hp → Prop, (∃ m, W 0 m σ H) ∧ ∀ i m σ H, W i m σ H →
      ((Itr lo n).stop i H ∧ D.nx σ H) ∨ ((Itr lo n).go i H ∧ ∃ N : St → Hp → Prop, (∀ σ' H', N σ' H' → ∃ m', m' < m ∧ W (i + 1) m' σ' H') ∧ ∀ x H', (Itr lo n).yld i H x H' → g x σ H' fun σ2 H2 => ts { D with nx := N, ct := N, bk := D.nx } σ2 H2) := by
  obtain ⟨I, h0, hs, hd⟩ := h
  refine for_range (lo := lo) (n := n) (fun i σ H => ∃ F' Γ', State C e F' σ H Γ' ∧ I i Γ') ⟨F, Γ, s, h0⟩ (fun i σ H hw ⟨F', Γ', st, hi⟩ => ?_) fun σ H ⟨F', Γ', st, hi⟩ => c.nx F' σ H Γ' (hd Γ' hi) st
  refine hs i (lo + i) Γ' (by unfold rng; rw [if_pos hw]) hi _ F' σ H _ st rfl _ fun σ2 Γ2 h2 st2 => ?_
  exact h2 _ F' σ2 H _ hM st2 ⟨fun F3 σ3 H3 Γ3 k3 st3 => ⟨F3, Γ3, st3, k3⟩, c.rt, c.nx, fun F3 σ3 H3 Γ3 k3 st3 => ⟨F3, Γ3, st3, k3⟩⟩
theorem z_range (h : R C ta Γ dInt fun n => -(2 ^ 62) ≤ n ∧ n < 2 ^ 62 ∧ Body C g ts dInt k (rng 0 n.toNat) n.toNat Γ) : Z C (tFor (iRng1 (tCons ta tNil)) g ts) Γ k := fun e F σ H D hM s c => h e F σ H s _ fun v F1 H1 n ⟨l1, l2, hb⟩ g1 r1 => by
  cases (show v = .int n from r1)
  exact ⟨n, rfl, l1, l2, for_rng hM (s.grow g1) c hb⟩
theorem z_range2 (h : R C ta Γ dInt fun m => R C tb Γ dInt fun n => (-(2 ^ 62) ≤ m ∧ m < 2 ^ 62 ∧ -(2 ^ 62) ≤ n ∧ n < 2 ^ 62) ∧ Body C g ts dInt k (rng m (n - m).toNat) (n - m).toNat Γ) : Z C (tFor (iRng2 (tCons ta (tCons tb tNil))) g ts) Γ k := fun e F σ H D hM s c => h e F σ H s _ fun v F1 H1 m h1 g1 r1 => h1 e F1 σ H1 (s.grow g1) _ fun v2 F2 H2 n ⟨l, hb⟩ g2 r2 => by
  cases (show v = .int m from r1)
  cases (show v2 = .int n from r2)
  exact ⟨m, n, rfl, l, for_rng hM ((s.grow g1).grow g2) c hb⟩
theorem z_while (I : Nat → List Cell → Prop) (h0 : ∃ m, I m Γ) (hs : ∀ m Γ', I m Γ' → T C t Γ' fun b => (b = true → Z C ts Γ' { nx := fun Γ2 => ∃ m', m' < m ∧ I m' Γ2, ct := fun Γ2 => ∃ m', m' < m ∧ I m' Γ2, bk := k.nx, rt := k.rt }) ∧ (b = false → k.nx Γ')) : Z C (tWhile t ts) Γ k := fun e F σ H D hM s c => by
  obtain ⟨m0, h0⟩ := h0
  refine ⟨fun m σ H => ∃ F' Γ', State C e F' σ H Γ' ∧ I m Γ', ⟨m0, F, Γ, s, h0⟩, fun m σ H ⟨F', Γ', st, hi⟩ => ?_⟩
  refine hs m Γ' hi e F' σ H st _ fun b F2 H2 kb g2 => ?_
  cases b with
  | false => exact c.nx F2 σ H2 Γ' (kb.2 rfl) (st.grow g2)
  | true =>
    refine ⟨fun σ3 H3 => ∃ F3 Γ3, State C e F3 σ3 H3 Γ3 ∧ ∃ m', m' < m ∧ I m' Γ3, fun σ3 H3 ⟨F3, Γ3, st3, m', hm, q⟩ => ⟨m', hm, F3, Γ3, st3, q⟩, ?_⟩
    exact kb.1 rfl e F2 σ H2 _ hM (st.grow g2) ⟨fun F3 σ3 H3 Γ3 k3 st3 => ⟨F3, Γ3, st3, k3⟩, c.rt, c.nx, fun F3 σ3 H3 Γ3 k3 st3 => ⟨F3, Γ3, st3, k3⟩⟩
/-! truth of a list -/
theorem t_truL {kb : Bool → Prop} (h : R C ta Γ (dList (d := d)) fun xs => kb (!xs.isEmpty)) : T C (fun σ H Q => ta σ H fun x H' => ∃ k, TruV C.K x H' k ∧ Q k H') Γ kb := fun e F σ H s Q q => h e F σ H s _ fun v F' H' xs kx g ⟨a, vs, e1, hs, r⟩ => by
  subst e1
  refine ⟨_, .inl ⟨vs, hs, rfl⟩, q _ F' H' ?_ g⟩
  have e : vs.isEmpty = xs.isEmpty := by
    have := r.len
    cases vs <;> cases xs <;> simp_all
  rw [e]
  exact kx

/-! ### calls -/
/-- a def over data that it leaves as they are -/
def Fn (C : GCtx) (Γ : List Cell) (post : Cell → Prop) (vs : List V) (H : Hp) (Q : VK) : Prop :=
  ∃ F, Gr F H F H ∧ Slots C F (vs.map some) Γ [] ∧ ∀ v F' H' c L, post c → Wk ⟨F, H, []⟩ F' L H' → CellOk C F' (some v) c L → Q v H'
theorem Fn.len {post : Cell → Prop} {vs : List V} {H : Hp} {Q : VK} (h : Fn C Γ post vs H Q) : vs.length = Γ.length := by
  obtain ⟨F, _, s, _⟩ := h
  simpa using s.len
theorem Fn.mono {post post' : Cell → Prop} {vs : List V} {H : Hp} {Q : VK} (h : Fn C Γ post vs H Q) (m : ∀ c, post' c → post c) : Fn C Γ post' vs H Q := by
  obtain ⟨F, g, s, q⟩ := h
  exact ⟨F, g, s, fun v F' H' c L p => q v F' H' c L (m c p)⟩
/-- sp serves the cells, and its answers are as post says -/
def SpW (C : GCtx) (sp : Sp) (cs : List Cell) (post : Cell → Prop) : Prop := ∀ vs H Q E, Fn C cs post vs H Q → sp vs H Q E
theorem w_call {sp : Sp} {E : XK} {tl : TA} {kx : α → Prop} (h : WA C tl Γ fun cs => SpW C sp cs fun c => ∃ r, c = .val d r ∧ kx r) : W C (tCall sp [] E tl) Γ d kx := fun e F σ H s Q q => h e F σ H s _ fun vs F1 H1 cs hc g1 sl => by
  show sp (vs ++ []) H1 Q E
  rw [List.append_nil]
  refine hc vs H1 Q E ⟨F1, g1.base, sl, fun v F' H' c L ⟨r, ec, kr⟩ g2 rc => ?_⟩
  subst ec
  obtain ⟨e1, v', e2, rv⟩ := rc
  subst e1
  cases (Option.some.inj e2)
  exact q v F' H' r kr (g1.trans0 g2) rv
theorem o_call {sp : Sp} {E : XK} {tl : TA} {od : @OD α d} {kx : α → Prop} (h : WA C tl Γ fun cs => SpW C sp cs fun c => ∃ r, c = .own d od none r ∧ kx r) : O C (tCall sp [] E tl) Γ od kx := fun e F σ H s Q q => h e F σ H s _ fun vs F1 H1 cs hc g1 sl => by
  show sp (vs ++ []) H1 Q E
  rw [List.append_nil]
  refine hc vs H1 Q E ⟨F1, g1.base, sl, fun v F' H' c L ⟨r, ec, kr⟩ g2 rc => ?_⟩
  subst ec
  obtain ⟨v', e2, _, rv⟩ := rc
  cases (Option.some.inj e2)
  exact q v F' H' L r kr (by simpa using g1.trans g2) rv
/-- what is new in H' joins F -/
def fresh (F H F' : Hp) : Hp := fun a => if (H a).isSome = true then F a else F' a
theorem fresh_gr {F F1 H F' H' : Hp} {L : LO} (b : Gr F H F H) (g : Wk ⟨F1, H, []⟩ F' L H') : Wk ⟨F, H, []⟩ (fresh F H F') L H' where
  ff := fun a o h => by
    have h2 : (H a).isSome = true := by rw [b.fh a o h]; rfl
    unfold fresh; rw [if_pos h2]; exact h
  hh := g.hh
  th := g.th
  fh := fun a o h => by
    unfold fresh at h
    split at h
    · exact g.hh a o (fun z => nomatch z) (b.fh a o h)
    · exact g.fh a o h
  nw := fun a h h' => by
    unfold fresh
    have h2 : (H a).isSome = true := by cases q : H a with | none => exact absurd q h | some o => rfl
    rw [if_pos h2]; exact h'
  tp := fun a xs h => by
    unfold fresh
    split
    · next h2 =>
      cases q : H a with
      | none => rw [q] at h2; cases h2
      | some o =>
        have := g.hh a o (fun z => nomatch z) q
        rw [h] at this
        cases (Option.some.inj this)
        exact b.tp a xs q
    · exact g.tp a xs h
  ow := fun p hp => by
    obtain ⟨h1, h2, h3⟩ := g.ow p hp
    have h4 : H p.1 = none := h3.resolve_right (fun z => nomatch z)
    refine ⟨?_, h2, .inl h4⟩
    unfold fresh
    rw [if_neg (by rw [h4]; exact fun z => nomatch z)]
    exact h1
  nd := g.nd
theorem Gr.all {F H : Hp} (b : Gr F H F H) : Gr H H H H := ⟨Same.refl _, fun _ _ _ h => h, fun _ h => h, Same.refl _, fun _ _ h => h, fun _ _ h => h, fun _ h => (nomatch h), List.nodup_nil⟩
/-- .. where the arguments may be owned, and the answer stands still -/
theorem w_callB [i : @Imm α d] {sp : Sp} {E : XK} {tl : TA} {kx : α → Prop} (h : RA C tl Γ fun cs => SpW C sp cs fun c => ∃ r, c = .val d r ∧ kx r) : W C (tCall sp [] E tl) Γ d kx := fun e F σ H s Q q => h e F σ H s _ fun vs F1 H1 cs hc g1 sl => by
  show sp (vs ++ []) H1 Q E
  rw [List.append_nil]
  refine hc vs H1 Q E ⟨H1, Gr.all g1.base, sl, fun v F' H' c L ⟨r, ec, kr⟩ g2 rc => ?_⟩
  subst ec
  obtain ⟨e1, v', e2, rv⟩ := rc
  subst e1
  cases (Option.some.inj e2)
  have g3 := fresh_gr g1.base g2
  exact q v _ H' r kr (g1.trans0 g3) (i.imm (fun a xs h => g3.tp a xs (g2.fh _ _ h)) rv)
/-- owned data that lean on nothing but what stands still -/
class OIm (α : Type) [d : Dat α] (od : OD α) : Prop where
  oimm : ∀ {C : GCtx} {F H : Hp} {v : V} {x : α} {L : LO}, (∀ a xs, H a = some (.tup xs) → F a = some (.tup xs)) → od.orep C H v x L → od.orep C F v x L
instance mList {α : Type} [d : Dat α] [i : Imm α] : OIm (List α) oList := ⟨fun t ⟨a, vs, e, h, r⟩ => ⟨a, vs, e, h, r.imm t⟩⟩
theorem o_callB {od : @OD α d} [i : @OIm α d od] {sp : Sp} {E : XK} {tl : TA} {kx : α → Prop} (h : RA C tl Γ fun cs => SpW C sp cs fun c => ∃ r, c = .own d od none r ∧ kx r) : O C (tCall sp [] E tl) Γ od kx := fun e F σ H s Q q => h e F σ H s _ fun vs F1 H1 cs hc g1 sl => by
  show sp (vs ++ []) H1 Q E
  rw [List.append_nil]
  refine hc vs H1 Q E ⟨H1, Gr.all g1.base, sl, fun v F' H' c L ⟨r, ec, kr⟩ g2 rc => ?_⟩
  subst ec
  obtain ⟨v', e2, _, rv⟩ := rc
  cases (Option.some.inj e2)
  have g3 := fresh_gr g1.base g2
  exact q v _ H' L r kr (by simpa using g1.trans g3) (i.oimm (fun a xs h => g3.tp a xs (g2.fh _ _ h)) rv)
/-- THE BODY of such a def -/
theorem Fn.body {N : List Str} {post : Cell → Prop} {vs : List V} {H : Hp} {Q : VK} {t : TS} (h : Fn C Γ post vs H Q)
    (hz : Z C t (Γ ++ List.replicate (N.length - Γ.length) .no) { nx := fun _ => post (.val dUnit ()), rt := fun c _ => post c, bk := fun _ => False, ct := fun _ => False }) : t { nx := fun _ H' => Q .non H', rt := Q } (L2.start N vs) H := by
  have hl := h.len
  obtain ⟨F, g, s, q⟩ := h
  have pad : ∀ n, Slots C F (List.replicate n none) (List.replicate n .no) [] := by
    intro n
    induction n with
    | zero => exact .nil
    | succ n ih => exact .cons (L := []) rfl ih
  have app : ∀ {σ1 σ2 : St} {Γ1 Γ2 : List Cell} {L1 L2 : LO}, Slots C F σ1 Γ1 L1 → Slots C F σ2 Γ2 L2 → Slots C F (σ1 ++ σ2) (Γ1 ++ Γ2) (L1 ++ L2) := by
    intro σ1 σ2 Γ1 Γ2 L1 L2 a b
    induction a with
    | nil => exact b
    | cons h r ih => rw [List.append_assoc]; exact .cons h ih
  have st : State C ⟨F, H, []⟩ F (L2.start N vs) H (Γ ++ List.replicate (N.length - Γ.length) .no) := by
    refine ⟨[], g, ?_⟩
    unfold L2.start
    rw [← hl]
    exact app s (pad _)
  refine hz ⟨F, H, []⟩ F (L2.start N vs) H _ rfl st ⟨fun F' σ' H' Γ' p s' => ?_, fun F' σ' H' Γ' v c L L' p kw rc sl => ?_, fun _ _ _ _ z => z.elim, fun _ _ _ _ z => z.elim⟩
  · obtain ⟨L, kw, _⟩ := s'
    refine q .non F' H' (.val dUnit ()) [] p (kw.sub (fun _ z => nomatch z) List.nodup_nil) ⟨rfl, .non, rfl, rfl⟩
  · have nd : (L.map Prod.fst).Nodup := by
      have := kw.nd
      rw [List.map_append] at this
      exact (List.nodup_append.mp this).1
    exact q v F' H' c L p (kw.sub (fun p hp => List.mem_append_left _ hp) nd) rc
end
end G

/-! G4: comprehensions, sorted, isinstance, equality, sets and dicts. -/
namespace G
open PySem L2

/-! ### targets that touch but their own slots -/
def Tg (g : TG) (js : List Nat) : Prop := ∀ v σ H (Q : St → Hp → Prop), g v σ H Q → g v σ H fun σ' H' => wipe σ' js = wipe σ js ∧ Q σ' H'
def Tgs (g : TGs) (js : List Nat) : Prop := ∀ vs σ H (Q : St → Hp → Prop), g vs σ H Q → g vs σ H fun σ' H' => wipe σ' js = wipe σ js ∧ Q σ' H'
theorem set_comm {α : Type _} (l : List α) {i j : Nat} (a b : α) (h : i ≠ j) : (l.set i a).set j b = (l.set j b).set i a := by
  apply List.ext_getElem?
  intro m
  simp only [List.getElem?_set, List.length_set]
  by_cases h1 : j = m <;> by_cases h2 : i = m <;> simp_all
theorem wipe_at {σ : St} {i : Nat} {o : Option V} : ∀ {js : List Nat}, i ∈ js → wipe (σ.set i o) js = wipe σ js
  | [], h => nomatch h
  | j :: js, h => by
    unfold wipe
    by_cases hi : i ∈ js
    · rw [wipe_at hi]
    · have e : i = j := by
        rcases List.mem_cons.mp h with h | h
        · exact h
        · exact absurd h hi
      subst e
      have q : ∀ (js : List Nat), i ∉ js → wipe (σ.set i o) js = (wipe σ js).set i o := by
        intro js
        induction js with
        | nil => intro _; rfl
        | cons m js ih =>
          intro h
          unfold wipe
          rw [ih (fun z => h (List.mem_cons_of_mem _ z)), set_comm _ _ _ (fun z => h (by rw [z]; exact List.mem_cons_self))]
      rw [q js hi]
      exact List.set_set _
theorem tg_name {i : Nat} {js : List Nat} (h : i ∈ js) : Tg (gName i) js := fun v σ H Q q => ⟨wipe_at h, q⟩
theorem tgs_nil {js : List Nat} : Tgs gNil js := fun vs σ H Q ⟨e, q⟩ => ⟨e, rfl, q⟩
theorem tgs_cons {g : TG} {gs : TGs} {js : List Nat} (h : Tg g js) (hs : Tgs gs js) (m : ∀ v σ H (Q Q' : St → Hp → Prop), (∀ σ H, Q σ H → Q' σ H) → g v σ H Q → g v σ H Q') (ms : ∀ v σ H (Q Q' : St → Hp → Prop), (∀ σ H, Q σ H → Q' σ H) → gs v σ H Q → gs v σ H Q') : Tgs (gCons g gs) js := fun vs σ H Q ⟨v, r, e, q⟩ =>
  ⟨v, r, e, m _ _ _ _ _ (fun σ1 H1 ⟨e1, q1⟩ => ms _ _ _ _ _ (fun σ2 H2 ⟨e2, q2⟩ => ⟨e2.trans e1, q2⟩) (hs _ _ _ _ q1)) (h _ _ _ _ q)⟩
def MoG (g : TG) : Prop := ∀ v σ H (Q Q' : St → Hp → Prop), (∀ σ H, Q σ H → Q' σ H) → g v σ H Q → g v σ H Q'
def MoGs (g : TGs) : Prop := ∀ v σ H (Q Q' : St → Hp → Prop), (∀ σ H, Q σ H → Q' σ H) → g v σ H Q → g v σ H Q'
theorem mo_name {i : Nat} : MoG (gName i) := fun _ _ _ _ _ m q => m _ _ q
theorem mos_nil : MoGs gNil := fun _ _ _ _ _ m ⟨e, q⟩ => ⟨e, m _ _ q⟩
theorem mos_cons {g : TG} {gs : TGs} (h : MoG g) (hs : MoGs gs) : MoGs (gCons g gs) := fun _ _ _ _ _ m ⟨v, r, e, q⟩ => ⟨v, r, e, h _ _ _ _ _ (fun _ _ q => hs _ _ _ _ _ m q) q⟩
theorem mo_tup {K : PySem.W.Frag} {n : Nat} {gs : TGs} (h : MoGs gs) : MoG (gTup K n gs) := fun _ _ _ _ _ m ⟨a, xs, e, s, l, q⟩ => ⟨a, xs, e, s, l, h _ _ _ _ _ m q⟩
theorem tgs_cons' {g : TG} {gs : TGs} {js : List Nat} (h : Tg g js ∧ MoG g) (hs : Tgs gs js ∧ MoGs gs) : Tgs (gCons g gs) js ∧ MoGs (gCons g gs) := ⟨tgs_cons h.1 hs.1 h.2 hs.2, mos_cons h.2 hs.2⟩
theorem tgs_nil' {js : List Nat} : Tgs gNil js ∧ MoGs gNil := ⟨tgs_nil, mos_nil⟩
theorem tg_name' {i : Nat} {js : List Nat} (h : i ∈ js) : Tg (gName i) js ∧ MoG (gName i) := ⟨tg_name h, mo_name⟩
theorem tg_tup' {K : PySem.W.Frag} {n : Nat} {gs : TGs} {js : List Nat} (h : Tgs gs js ∧ MoGs gs) : Tg (gTup K n gs) js ∧ MoG (gTup K n gs) := ⟨fun _ _ _ _ ⟨a, xs, e, s, l, q⟩ => ⟨a, xs, e, s, l, h.1 _ _ _ _ q⟩, mo_tup h.2⟩

def wipeC (Γ : List Cell) : List Nat → List Cell
  | [] => Γ
  | v :: vs => (wipeC Γ vs).set v .no
section
variable {C : GCtx} {e : En} {F F' : Hp} {σ : St} {H H' : Hp} {Γ : List Cell}
theorem State.len (s : State C e F σ H Γ) : σ.length = Γ.length := let ⟨_, _, sl⟩ := s; sl.len
theorem State.wipe (s : State C e F σ H Γ) : ∀ vs : List Nat, State C e F (wipe σ vs) H (wipeC Γ vs)
  | [] => s
  | v :: vs => by
    have ih := State.wipe s vs
    unfold L2.wipe wipeC
    cases q : (wipeC Γ vs)[v]? with
    | some c => exact ih.forget q
    | none =>
      have h1 : (wipeC Γ vs).length ≤ v := List.getElem?_eq_none_iff.mp q
      have h2 : (L2.wipe σ vs).length ≤ v := by rw [ih.len]; exact h1
      rw [List.set_eq_of_length_le h1, List.set_eq_of_length_le h2]
      exact ih
theorem State.growL {L' : LO} (s : State C e F σ H Γ) (g : Wk ⟨F, H, []⟩ F' L' H') : State C e F' σ H' Γ := by
  obtain ⟨L, k, sl⟩ := s
  have k2 := k.trans g
  have k3 : Wk e F' ([] ++ L' ++ L) H' := by simpa using k2
  exact ⟨L, by simpa using k3.drop, sl.mono g.ff⟩
end

/-! ### comprehensions -/
section
variable {C : GCtx} {Γ : List Cell} {te ta tb tc : TE} {t u tt : TT} {α β γ δ : Type} {d1 : Dat α} {d : Dat α} {d2 : Dat β} {k : Ks} {t1 t2 ts : TS} {g : TG}

def CompB (C : GCtx) (g : TG) (tt : TT) (te : TE) {α β : Type} (d : Dat α) (d2 : Dat β) (kx : List β → Prop) (get : Nat → Option α) (n : Nat) (Γ : List Cell) : Prop :=
  ∃ I : Nat → List β → Prop, I 0 [] ∧ (∀ i x ys, get i = some x → I i ys → A C g Γ d x fun Γ2 => T C tt Γ2 fun b => (b = true → W C te Γ2 d2 fun y => ys.length < PySem.sizeLine ∧ I (i + 1) (ys ++ [y])) ∧ (b = false → I (i + 1) ys)) ∧ ∀ ys, I n ys → kx ys
/-- one turn -/
theorem comp_turn {e : En} {F1 : Hp} {σ : St} {H1 : Hp} {vs : List Nat} {D : Addr} {x : α} {v : V} {I I' : List β → Prop} (s1 : State C e F1 σ H1 Γ) (hT : Tg g vs)
    (hs : ∀ ys, I ys → A C g (wipeC Γ vs) d x fun Γ2 => T C tt Γ2 fun b => (b = true → W C te Γ2 d2 fun y => ys.length < PySem.sizeLine ∧ I' (ys ++ [y])) ∧ (b = false → I' ys)) (rx : ∀ F', Same F1 F' → d.rep C F' v x) {H : Hp}
    (h : ∃ F' acc ys, Wk ⟨F1, H1, []⟩ F' [(D, .lst acc)] H ∧ Reps d2 C F' acc ys ∧ I ys) :
    g v (wipe σ vs) H fun σ2 H2 => wipe σ2 vs = wipe σ vs ∧ tt σ2 H2 fun b H3 =>
      if b = true then te σ2 H3 fun y H4 => ∃ acc, H4 D = some (.lst acc) ∧ acc.length < PySem.sizeLine ∧ (∃ F' acc' ys, Wk ⟨F1, H1, []⟩ F' [(D, .lst acc')] (upd H4 D (.lst (acc ++ [y]))) ∧ Reps d2 C F' acc' ys ∧ I' ys) else (∃ F' acc ys, Wk ⟨F1, H1, []⟩ F' [(D, .lst acc)] H3 ∧ Reps d2 C F' acc ys ∧ I' ys) := by
  obtain ⟨F', acc, ys, kw, r, hi⟩ := h
  have st := (s1.growL kw).wipe vs
  have ww : ∀ σ0 : St, wipe (wipe σ0 vs) vs = wipe σ0 vs := by
    intro σ0
    have : ∀ (l : List Nat) (σ1 : St), (∀ j ∈ l, (σ1[j]? = none ∨ σ1[j]? = some none)) → wipe σ1 l = σ1 := by
      intro l
      induction l with
      | nil => intro _ _; rfl
      | cons j l ih =>
        intro σ1 hj
        unfold wipe
        rw [ih σ1 fun m hm => hj m (List.mem_cons_of_mem _ hm)]
        apply List.ext_getElem?
        intro m
        rw [List.getElem?_set]
        by_cases hm : j = m
        · subst hm
          rcases hj j List.mem_cons_self with z | z
          · rw [z, if_pos rfl, if_neg (Nat.not_lt.mpr (List.getElem?_eq_none_iff.mp z))]
          · rw [z, if_pos rfl, if_pos (List.getElem?_eq_some_iff.mp z).1]
        · rw [if_neg hm]
    refine this vs _ fun j hj => ?_
    cases q : (wipe σ0 vs)[j]? with
    | none => exact .inl rfl
    | some o =>
      cases o with
      | none => exact .inr rfl
      | some y => exact absurd hj (wipe_some q).2
  have key := hs ys hi e F' _ H v st (rx F' kw.ff) (fun σ2 H2 => tt σ2 H2 fun b H3 =>
      if b = true then te σ2 H3 fun y H4 => ∃ acc, H4 D = some (.lst acc) ∧ acc.length < PySem.sizeLine ∧ (∃ F' acc' ys, Wk ⟨F1, H1, []⟩ F' [(D, .lst acc')] (upd H4 D (.lst (acc ++ [y]))) ∧ Reps d2 C F' acc' ys ∧ I' ys) else (∃ F' acc ys, Wk ⟨F1, H1, []⟩ F' [(D, .lst acc)] H3 ∧ Reps d2 C F' acc ys ∧ I' ys)) fun σ2 Γ2 h2 st2 => by
    refine h2 e F' σ2 H st2 _ fun b F3 H3 kb g3 => ?_
    have kw3 := kw.trans0 g3
    cases b with
    | false => exact ⟨F3, acc, ys, kw3, r.mono g3.ff, kb.2 rfl⟩
    | true =>
      refine kb.1 rfl e F3 σ2 H3 (st2.grow g3) _ fun y F4 H4 yv ⟨hl, ky⟩ g4 ry => ?_
      have kw4 := kw3.trans0 g4
      have hD : H4 D = some (.lst acc) := (kw4.ow (D, .lst acc) (by simp)).2.1
      exact ⟨acc, hD, by rw [r.len]; exact hl, F4, acc ++ [y], ys ++ [yv], kw4.put (fun _ z => by cases z), (r.mono (g3.ff.trans g4.ff)).append (Reps.one ry), ky⟩
  have key2 := hT v _ H _ key
  rw [ww] at key2
  exact key2
theorem o_lc {tl : TE} {vs : List Nat} {kx : List β → Prop} (hT : Tg g vs ∧ MoG g) (h : W C tl Γ (dList (d := d)) fun xs => CompB C g tt te d d2 kx (fun i => xs[i]?) xs.length (wipeC Γ vs)) : O C (tLc (iList C.K tl) g tt te vs) Γ (oList (d := d2)) kx := fun e F σ H s Q q => h e F σ H s _ fun v F1 H1 xs ⟨I, h0, hs, hd⟩ g1 ⟨a, us, e1, hq, r⟩ => by
  subst e1
  refine ⟨a, rfl, ⟨us, g1.fh.seq hq⟩, fun D hD => ?_⟩
  have kw0 : Wk ⟨F1, H1, []⟩ F1 [(D, .lst [])] (upd H1 D (.lst [])) := g1.base.own hD (fun _ z => by cases z)
  refine lc_list (K := C.K) (a := a) (xs := us) (fun i H => ∃ F' acc ys, Wk ⟨F1, H1, []⟩ F' [(D, .lst acc)] H ∧ Reps d2 C F' acc ys ∧ I i ys) ⟨F1, [], [], kw0, trivial, h0⟩ (fun i H _ ⟨F', acc, ys, kw, _⟩ => (kw.ff.trans kw.fh).seq hq) (fun i w H hw p => ?_) fun H ⟨F', acc, ys, kw, ra, hi⟩ => ?_
  · obtain ⟨x, hx, rx⟩ := r.getV hw
    exact comp_turn (s.grow g1) hT.1 (hs i x · hx) (fun F' sm => d.mono sm rx) p
  · rw [r.len] at hi
    exact q _ F' H _ ys (hd ys hi) (by simpa using g1.trans kw) ⟨D, acc, rfl, rfl, ra⟩
theorem o_lcT {tl : TE} {vs : List Nat} {kx : List β → Prop} (hT : Tg g vs ∧ MoG g) (h : W C tl Γ (dTup (d := d)) fun xs => CompB C g tt te d d2 kx (fun i => xs.l[i]?) xs.l.length (wipeC Γ vs)) : O C (tLc (L2.iTup C.K tl) g tt te vs) Γ (oList (d := d2)) kx := fun e F σ H s Q q => h e F σ H s _ fun v F1 H1 xs ⟨I, h0, hs, hd⟩ g1 ⟨a, us, e1, hq, r⟩ => by
  subst e1
  refine ⟨a, rfl, ⟨us, (hq.mono g1.fh).sq⟩, fun D hD => ?_⟩
  have kw0 : Wk ⟨F1, H1, []⟩ F1 [(D, .lst [])] (upd H1 D (.lst [])) := g1.base.own hD (fun _ z => by cases z)
  refine lc_tup (K := C.K) (a := a) (xs := us) (fun i H => ∃ F' acc ys, Wk ⟨F1, H1, []⟩ F' [(D, .lst acc)] H ∧ Reps d2 C F' acc ys ∧ I i ys) ⟨F1, [], [], kw0, trivial, h0⟩ (fun i H _ ⟨F', acc, ys, kw, _⟩ => (hq.mono (kw.ff.trans kw.fh)).sq) (fun i w H hw p => ?_) fun H ⟨F', acc, ys, kw, ra, hi⟩ => ?_
  · obtain ⟨x, hx, rx⟩ := r.getV hw
    exact comp_turn (s.grow g1) hT.1 (hs i x · hx) (fun F' sm => d.mono sm rx) p
  · rw [r.len] at hi
    exact q _ F' H _ ys (hd ys hi) (by simpa using g1.trans kw) ⟨D, acc, rfl, rfl, ra⟩
theorem o_lcR {vs : List Nat} {kx : List β → Prop} (hT : Tg g vs ∧ MoG g) (h : R C ta Γ dInt fun n => -(2 ^ 62) ≤ n ∧ n < 2 ^ 62 ∧ CompB C g tt te dInt d2 kx (rng 0 n.toNat) n.toNat (wipeC Γ vs)) : O C (tLc (iRng1 (tCons ta tNil)) g tt te vs) Γ (oList (d := d2)) kx := fun e F σ H s Q q => h e F σ H s _ fun v F1 H1 n ⟨l1, l2, I, h0, hs, hd⟩ g1 r1 => by
  cases (show v = .int n from r1)
  refine ⟨n, rfl, l1, l2, fun D hD => ?_⟩
  have kw0 : Wk ⟨F1, H1, []⟩ F1 [(D, .lst [])] (upd H1 D (.lst [])) := g1.base.own hD (fun _ z => by cases z)
  refine lc_range (lo := 0) (n := n.toNat) (fun i H => ∃ F' acc ys, Wk ⟨F1, H1, []⟩ F' [(D, .lst acc)] H ∧ Reps d2 C F' acc ys ∧ I i ys) ⟨F1, [], [], kw0, trivial, h0⟩ (fun i H hw p => ?_) fun H ⟨F', acc, ys, kw, ra, hi⟩ => ?_
  · exact comp_turn (d := dInt) (s.grow g1) hT.1 (hs i (0 + i) · (by unfold rng; rw [if_pos hw])) (fun F' sm => rfl) p
  · exact q _ F' H _ ys (hd ys hi) (by simpa using g1.trans kw) ⟨D, acc, rfl, rfl, ra⟩
theorem wipe_lists {σ : St} {vs : List Nat} : True := trivial
/-- no test -/
theorem t_yes {kb : Bool → Prop} (h : kb true) : T C tYes Γ kb := fun e F σ H s Q q => q true F H h s.base
theorem getElem?_filterTake {α : Type} (p : α → Bool) (xs : List α) {i : Nat} {x : α} (h : xs[i]? = some x) : (xs.take (i + 1)).filter p = (xs.take i).filter p ++ (if p x then [x] else []) := by
  rw [List.take_add_one, h, List.filter_append]
  congr 1
  cases hp : p x <;> simp [hp]
/-- [f x for x in xs if p x] -/
theorem compB_map {get : Nat → Option α} {n : Nat} {kx : List β → Prop} (xs : List α) (p : α → Bool) (f : α → β) (hn : n = xs.length) (hg : ∀ i, get i = xs[i]?) (hl : xs.length ≤ PySem.sizeLine)
    (h : ∀ x, x ∈ xs → A C g Γ d x fun Γ2 => T C tt Γ2 fun b => b = p x ∧ (p x = true → W C te Γ2 d2 (· = f x))) (hk : kx ((xs.filter p).map f)) : CompB C g tt te d d2 kx get n Γ := by
  subst hn
  refine ⟨fun i ys => ys = ((xs.take i).filter p).map f, rfl, fun i x ys hx hi => ?_, fun ys e => ?_⟩
  · rw [hg] at hx
    have hlt : i < xs.length := (List.getElem?_eq_some_iff.mp hx).1
    have hm : x ∈ xs := List.mem_of_getElem? hx
    intro e F σ H v s r Q q
    refine h x hm e F σ H v s r Q fun σ' Γ' k' s' => q σ' Γ' (t_mono k' fun b ⟨hb, hw⟩ => ⟨fun z => ?_, fun z => ?_⟩) s'
    · subst z
      refine w_mono (hw hb.symm) fun y ey => ⟨?_, ?_⟩
      · subst hi
        rw [List.length_map]
        have h1 := List.length_filter_le p (xs.take i)
        rw [List.length_take] at h1
        omega
      · subst hi ey
        rw [getElem?_filterTake p xs hx, List.map_append, if_pos hb.symm]; rfl
    · subst z
      subst hi
      rw [getElem?_filterTake p xs hx, ← hb]; simp
  · subst e
    rw [List.take_length]
    exact hk
def rngL (lo : Int) (n : Nat) : List Int := (List.range n).map fun i : Nat => lo + (i : Int)
theorem rng_get (lo : Int) (n i : Nat) : rng lo n i = (rngL lo n)[i]? := by
  unfold rng rngL
  rw [List.getElem?_map]
  by_cases h : i < n
  · rw [if_pos h, List.getElem?_range h]; rfl
  · rw [if_neg h, List.getElem?_eq_none (by simpa using h)]; rfl
theorem rngL_len (lo : Int) (n : Nat) : (rngL lo n).length = n := by simp [rngL]

/-! ### sorted -/
def isort (xs : List Int) : List Int := xs.mergeSort (fun a b => decide (a ≤ b))
theorem isort_perm (xs : List Int) : (isort xs).Perm xs := List.mergeSort_perm _ _
theorem isort_pw (xs : List Int) : (isort xs).Pairwise (· ≤ ·) := by
  have h := List.pairwise_mergeSort (le := fun a b : Int => decide (a ≤ b)) (by intro a b c; simp; omega) (by intro a b; simp; omega) xs
  exact h.imp (by simp)
theorem sorted_eq {xs ys : List Int} (p : xs.Perm ys) (h1 : xs.Pairwise (· ≤ ·)) (h2 : ys.Pairwise (· ≤ ·)) : xs = ys :=
  List.Perm.eq_of_pairwise (fun a b _ _ h h' => Int.le_antisymm h h') h1 h2 p
theorem isort_eq {xs ys : List Int} (p : ys.Perm xs) (h : ys.Pairwise (· ≤ ·)) : ys = isort xs := sorted_eq (p.trans (isort_perm xs).symm) h (isort_pw xs)
theorem o_sorted {kx : List Int → Prop} (h : R C ta Γ (dList (d := dInt)) fun xs => kx (isort xs)) : O C (tCB (rSortedI C.K) (tCons ta tNil)) Γ (oList (d := dInt)) kx := fun e F σ H s Q q => h e F σ H s _ fun v F' H' xs kx g ⟨a, vs, e1, hs, r⟩ => by
  subst e1
  cases r.ints
  refine ⟨a, xs, rfl, hs, fun ns' p pm pw hp => ?_⟩
  rw [isort_eq pm pw]
  obtain ⟨h1, h2⟩ := o_new (d := dInt) (L := []) g.base hp (Reps.ofInts (isort xs))
  exact q _ F' _ _ _ kx (by simpa using g.trans h1) h2

/-! ### isinstance -/
class Ty (α : Type) [d : Dat α] where
  tn : String
  ty : ∀ {C : GCtx} {H : Hp} {v : V} {x : α}, d.rep C H v x → TyX C.K H v (.type tn)
instance tyInt : Ty Int := ⟨"int", fun {C H v x} h => by cases (show v = .int x from h); exact .base (.int x)⟩
instance tyBool : Ty Bool := ⟨"bool", fun {C H v x} h => by cases (show v = .bl x from h); exact .base (.bl x)⟩
instance tyStr : Ty Str := ⟨"str", fun {C H v x} h => by cases (show v = .str x from h); exact .base (.str x)⟩
theorem ty_sql {K : PySem.W.Frag} {H : Hp} {a : Addr} {xs : List V} (h : SqL K H a xs) : TyX K H (.ref a) (.type "list") := by
  rcases h with (h | ⟨o, h⟩) | ⟨o, its, n, h, hc, _⟩
  · exact .base (.lst h)
  · exact .base (.frz h)
  · exact .kList h hc
theorem ty_tpa {K : PySem.W.Frag} {H : Hp} {a : Addr} {xs : List V} (h : TpA K H a xs) : TyX K H (.ref a) (.type "tuple") := by
  rcases h with h | (h | ⟨o, h⟩) | ⟨o, its, n, h, hc, _⟩
  · exact .base (.tup h)
  · cases h
  · cases h
  · exact .kTuple h hc
instance tyList {α : Type} [d : Dat α] : Ty (List α) := ⟨"list", fun ⟨a, vs, e, h, r⟩ => by subst e; exact ty_sql h⟩
instance tyTup {α : Type} [d : Dat α] : Ty (Tup α) := ⟨"tuple", fun ⟨a, vs, e, h, r⟩ => by subst e; exact ty_tpa h⟩
instance tyPair {α β : Type} [d1 : Dat α] [d2 : Dat β] : Ty (α × β) := ⟨"tuple", fun ⟨a, _, _, e, h, _⟩ => by subst e; exact ty_tpa h⟩
instance tyT3 {α β γ : Type} [d1 : Dat α] [d2 : Dat β] [d3 : Dat γ] : Ty (T3 α β γ) := ⟨"tuple", fun ⟨a, _, _, _, e, h, _⟩ => by subst e; exact ty_tpa h⟩
instance tyT4 {α β γ δ : Type} [d1 : Dat α] [d2 : Dat β] [d3 : Dat γ] [d4 : Dat δ] : Ty (T4 α β γ δ) := ⟨"tuple", fun ⟨a, _, _, _, _, e, h, _⟩ => by subst e; exact ty_tpa h⟩
theorem w_isi [ty : @Ty α d] {c : String} {b : Bool} {kx : Bool → Prop} (hk : PySem.W.kitOne C.K (.type ty.tn) (.type c) = some b) (h : R C ta Γ d fun _ => kx b) : W C (tCB (rIsi C.K) (tCons ta (tCons (tC (.ty c)) tNil))) Γ dBool kx := fun e F σ H s Q q => h e F σ H s _ fun v F' H' x kx g r =>
  ⟨v, .ty c, .type ty.tn, .type c, b, rfl, .ty c, ty.ty r, hk, q _ F' H' b kx g rfl⟩

/-! ### equality of data -/
class DE (α : Type) [d : Dat α] where
  toD : α → PyData
  dep : Nat
  dp : ∀ {C : GCtx} {H : Hp} {v : V} {x : α}, d.rep C H v x → Dp C.K H v (toD x)
  lay : ∀ x, (toD x).canLay0 = true
  deep : ∀ x, (toD x).depth ≤ dep
  eqv : ∀ x y, PyData.eqv (toD x) (toD y) = true ↔ x = y
theorem beq_iff' {α : Type} [BEq α] [LawfulBEq α] {a b : α} : (a == b) = true ↔ a = b := by simp
instance deInt : DE Int := ⟨.int, 1, fun {C H v x} h => by cases (show v = .int x from h); exact .int x, fun _ => by simp [PyData.canLay0], fun _ => by simp [PyData.depth], fun x y => by simp [PyData.eqv]⟩
instance deBool : DE Bool := ⟨.bool, 1, fun {C H v x} h => by cases (show v = .bl x from h); exact .bl x, fun _ => by simp [PyData.canLay0], fun _ => by simp [PyData.depth], fun x y => by simp [PyData.eqv]⟩
theorem dpAll_of [de : @DE α d] {H : Hp} : ∀ {vs : List V} {xs : List α}, Reps d C H vs xs → DpAll C.K H vs (xs.map de.toD)
  | [], [], _ => .nil
  | _ :: _, _ :: _, h => .cons (de.dp h.1) (dpAll_of h.2)
  | [], _ :: _, h => h.elim
  | _ :: _, [], h => h.elim
theorem eqvAll_of [de : @DE α d] : ∀ xs ys : List α, PyData.eqvAll (xs.map de.toD) (ys.map de.toD) = true ↔ xs = ys
  | [], [] => by simp [PyData.eqvAll]
  | x :: xs, y :: ys => by simp [PyData.eqvAll, de.eqv, eqvAll_of xs ys]
  | [], _ :: _ => by simp [PyData.eqvAll]
  | _ :: _, [] => by simp [PyData.eqvAll]
theorem layAll_of [de : @DE α d] : ∀ xs : List α, PyData.canLayAll0 (xs.map de.toD) = true
  | [] => by simp [PyData.canLayAll0]
  | x :: xs => by simp [PyData.canLayAll0, de.lay, layAll_of xs]
theorem depAll_of [de : @DE α d] : ∀ xs : List α, PyData.depthAll (xs.map de.toD) ≤ de.dep
  | [] => by simp [PyData.depthAll]
  | x :: xs => by
    simp only [List.map_cons, PyData.depthAll]
    exact Nat.max_le.mpr ⟨de.deep x, depAll_of xs⟩
instance deList [de : @DE α d] : @DE (List α) dList :=
  ⟨fun xs => .list (xs.map de.toD), de.dep + 1, fun ⟨a, vs, e, h, r⟩ => by subst e; exact .lst h (dpAll_of r), fun xs => by simp [PyData.canLay0, layAll_of], fun xs => by simp [PyData.depth, depAll_of], fun xs ys => by simp [PyData.eqv, eqvAll_of]⟩
instance deTup [de : @DE α d] : @DE (Tup α) dTup :=
  ⟨fun xs => .tuple (xs.l.map de.toD), de.dep + 1, fun ⟨a, vs, e, h, r⟩ => by subst e; exact .tup h.sq (dpAll_of r), fun xs => by simp [PyData.canLay0, layAll_of], fun xs => by simp [PyData.depth, depAll_of], fun xs ys => by
    obtain ⟨xs⟩ := xs
    obtain ⟨ys⟩ := ys
    simp [PyData.eqv, eqvAll_of]⟩
instance dePair {α β : Type} {d1 : Dat α} {d2 : Dat β} [de1 : @DE α d1] [de2 : @DE β d2] : @DE (α × β) dPair :=
  ⟨fun x => .tuple [de1.toD x.1, de2.toD x.2], max de1.dep de2.dep + 1, fun ⟨a, v1, v2, e, h, r1, r2⟩ => by subst e; exact .tup h.sq (.cons (de1.dp r1) (.cons (de2.dp r2) .nil)), fun x => by simp [PyData.canLay0, PyData.canLayAll0, de1.lay, de2.lay],
    fun x => by have h1 := de1.deep x.1; have h2 := de2.deep x.2; simp [PyData.depth, PyData.depthAll]; omega, fun x y => by
    obtain ⟨x1, x2⟩ := x
    obtain ⟨y1, y2⟩ := y
    simp [PyData.eqv, PyData.eqvAll, de1.eqv, de2.eqv]⟩
instance deT3 {α β γ : Type} {d1 : Dat α} {d2 : Dat β} {d3 : Dat γ} [de1 : @DE α d1] [de2 : @DE β d2] [de3 : @DE γ d3] : @DE (T3 α β γ) dT3 :=
  ⟨fun x => .tuple [de1.toD x.a, de2.toD x.b, de3.toD x.c], max de1.dep (max de2.dep de3.dep) + 1, fun ⟨a, v1, v2, v3, e, h, r1, r2, r3⟩ => by subst e; exact .tup h.sq (.cons (de1.dp r1) (.cons (de2.dp r2) (.cons (de3.dp r3) .nil))), fun x => by simp [PyData.canLay0, PyData.canLayAll0, de1.lay, de2.lay, de3.lay],
    fun x => by have h1 := de1.deep x.a; have h2 := de2.deep x.b; have h3 := de3.deep x.c; simp [PyData.depth, PyData.depthAll]; omega, fun x y => by
    obtain ⟨x1, x2, x3⟩ := x
    obtain ⟨y1, y2, y3⟩ := y
    simp [PyData.eqv, PyData.eqvAll, de1.eqv, de2.eqv, de3.eqv]⟩
instance deT4 {α β γ δ : Type} {d1 : Dat α} {d2 : Dat β} {d3 : Dat γ} {d4 : Dat δ} [de1 : @DE α d1] [de2 : @DE β d2] [de3 : @DE γ d3] [de4 : @DE δ d4] : @DE (T4 α β γ δ) dT4 :=
  ⟨fun x => .tuple [de1.toD x.a, de2.toD x.b, de3.toD x.c, de4.toD x.d], max de1.dep (max de2.dep (max de3.dep de4.dep)) + 1, fun ⟨a, v1, v2, v3, v4, e, h, r1, r2, r3, r4⟩ => by subst e; exact .tup h.sq (.cons (de1.dp r1) (.cons (de2.dp r2) (.cons (de3.dp r3) (.cons (de4.dp r4) .nil)))), fun x => by simp [PyData.canLay0, PyData.canLayAll0, de1.lay, de2.lay, de3.lay, de4.lay],
    fun x => by have h1 := de1.deep x.a; have h2 := de2.deep x.b; have h3 := de3.deep x.c; have h4 := de4.deep x.d; simp [PyData.depth, PyData.depthAll]; omega, fun x y => by
    obtain ⟨x1, x2, x3, x4⟩ := x
    obtain ⟨y1, y2, y3, y4⟩ := y
    simp [PyData.eqv, PyData.eqvAll, de1.eqv, de2.eqv, de3.eqv, de4.eqv]⟩
theorem de_shaped [de : @DE α d] (hd : de.dep ≤ 64) (x : α) : PySem.SeqAt.shaped (de.toD x) = true := by
  unfold PySem.SeqAt.shaped
  rw [de.lay x, decide_eq_true (Nat.le_trans (de.deep x) hd)]
  rfl
theorem de_eqv [de : @DE α d] [DecidableEq α] (x y : α) : PyData.eqv (de.toD x) (de.toD y) = decide (x = y) := by
  by_cases h : x = y
  · rw [decide_eq_true h]; exact (de.eqv x y).mpr h
  · rw [decide_eq_false h]
    cases q : PyData.eqv (de.toD x) (de.toD y) with
    | false => rfl
    | true => exact absurd ((de.eqv x y).mp q) h
theorem w_eqD [de : @DE α d] [DecidableEq α] {kb : Bool → Prop} (hd : de.dep ≤ 64) (h : R C ta Γ d fun x => R C tb Γ d fun y => kb (decide (x = y))) : W C (tOp (rEqD C.K) ta tb) Γ dBool kb := fun e F σ H s Q q => h e F σ H s _ fun v1 F1 H1 x h1 g1 r1 => h1 e F1 σ H1 (s.grow g1) _ fun v2 F2 H2 y ky g2 r2 =>
  ⟨de.toD x, de.toD y, de.dp (d.mono g2.hh0 r1), de.dp r2, de_shaped hd x, de_shaped hd y, q _ F2 H2 _ ky (g1.trans0 g2) (by rw [de_eqv]; rfl)⟩
theorem w_neD [de : @DE α d] [DecidableEq α] {kb : Bool → Prop} (hd : de.dep ≤ 64) (h : R C ta Γ d fun x => R C tb Γ d fun y => kb (!decide (x = y))) : W C (tOp (rNeD C.K) ta tb) Γ dBool kb := fun e F σ H s Q q => h e F σ H s _ fun v1 F1 H1 x h1 g1 r1 => h1 e F1 σ H1 (s.grow g1) _ fun v2 F2 H2 y ky g2 r2 =>
  ⟨de.toD x, de.toD y, de.dp (d.mono g2.hh0 r1), de.dp r2, de_shaped hd x, de_shaped hd y, q _ F2 H2 _ ky (g1.trans0 g2) (by rw [de_eqv]; rfl)⟩

/-! ### sets of ints -/
structure IS where
  l : List Int
def isAdd (s : IS) (k : Int) : IS := if k ∈ s.l then s else ⟨s.l ++ [k]⟩
def SetOk (S : Int → Bool) (n : Nat) (s : IS) : Prop := (∀ k, S k = decide (k ∈ s.l)) ∧ n = s.l.length
instance dSet : Dat IS := ⟨fun C F v s => ∃ a S n, v = .ref a ∧ F a = some (SetO C.w a S n) ∧ SetOk S n s, fun m ⟨a, S, n, e, h, o⟩ => ⟨a, S, n, e, m _ _ h, o⟩⟩
instance oSet : OD IS where
  orep C F v s L := ∃ a S n, v = .ref a ∧ L = [(a, SetO C.w a S n)] ∧ SetOk S n s
  omono m := fun h => h
  view := fun ⟨a, S, n, e, h, o⟩ m k => ⟨a, S, n, e, k (a, SetO _ a S n) (by rw [h]; exact List.mem_cons_self), o⟩
theorem o_set0 {kx : IS → Prop} (h : kx ⟨[]⟩) : O C (tCB (rSet0 C.w) tNil) Γ oSet kx := fun e F σ H s Q q => ⟨rfl, fun p hp => by
  have k := s.base.own (o := SetO C.w p (fun _ => false) 0) hp (fun _ z => by cases z)
  exact q _ F _ _ _ h k ⟨p, _, _, rfl, rfl, fun k => by simp, rfl⟩⟩
theorem w_inS {kb : Bool → Prop} (h : R C ta Γ dInt fun x => R C tb Γ dSet fun s => kb (decide (x ∈ s.l))) : W C (tOp (rSIn C.w) ta tb) Γ dBool kb := fun e F σ H s Q q => h e F σ H s _ fun v1 F1 H1 x h1 g1 r1 => h1 e F1 σ H1 (s.grow g1) _ fun v2 F2 H2 s ky g2 ⟨a, S, n, e2, ha, o⟩ => by
  cases (show v1 = .int x from r1)
  subst e2
  exact ⟨x, a, S, n, rfl, rfl, ha, q _ F2 H2 _ ky (g1.trans0 g2) (by rw [o.1 x]; rfl)⟩
theorem w_notinS {kb : Bool → Prop} (h : R C ta Γ dInt fun x => R C tb Γ dSet fun s => kb (!decide (x ∈ s.l))) : W C (tOp (rSNotIn C.w) ta tb) Γ dBool kb := fun e F σ H s Q q => h e F σ H s _ fun v1 F1 H1 x h1 g1 r1 => h1 e F1 σ H1 (s.grow g1) _ fun v2 F2 H2 s ky g2 ⟨a, S, n, e2, ha, o⟩ => by
  cases (show v1 = .int x from r1)
  subst e2
  exact ⟨x, a, S, n, rfl, rfl, ha, q _ F2 H2 _ ky (g1.trans0 g2) (by rw [o.1 x]; rfl)⟩
theorem z_sadd {i : Nat} {pin : Option V} {x : IS} (hi : Γ[i]? = some (.own dSet oSet pin x)) (h : R C te Γ dInt fun y => x.l.length + 1 < PySem.scanBound ∧ k.nx (Γ.set i (.own dSet oSet pin (isAdd x y)))) : Z C (tDrop (tSAdd C.w (tVar i) (tCons te tNil))) Γ k := fun e F σ H D hM s c => by
  obtain ⟨v0, _, _, e1, ⟨a0, S0, n0, rfl, rfl, _⟩, kw0, _⟩ := s.mut hi
  have ha0 : H a0 = some (SetO C.w a0 S0 n0) := (kw0.ow (a0, SetO C.w a0 S0 n0) (by simp)).2.1
  refine ⟨.ref a0, e1, ⟨a0, S0, n0, rfl, ha0⟩, h e F σ H s _ fun w F' H' y ⟨hl, ky⟩ g rw' => ?_⟩
  cases (show w = .int y from rw')
  obtain ⟨v, Li, rest, e2, ⟨a, S, n, rfl, rfl, o⟩, kw, f⟩ := (s.grow g).mut hi
  rw [e1] at e2
  cases (Option.some.inj e2)
  have ha : H' a0 = some (SetO C.w a0 S n) := (kw.ow (a0, SetO C.w a0 S n) (by simp)).2.1
  refine ⟨a0, y, S, n, rfl, rfl, ha, by rw [o.2]; exact hl, ?_⟩
  refine c.nx F' σ _ _ ky (f F' _ [(a0, _)] (isAdd x y) (Same.refl F') (kw.put (fun _ z => by cases z)) ⟨a0, _, _, rfl, rfl, fun j => ?_, ?_⟩)
  · unfold isAdd
    show (S j || decide (j = y)) = _
    rw [o.1 j]
    by_cases hy : y ∈ x.l
    · rw [if_pos hy]
      by_cases hj : j = y
      · subst hj; simp [hy]
      · simp [hj]
    · rw [if_neg hy]
      by_cases hj : j = y
      · subst hj; simp
      · simp [hj]
  · unfold isAdd
    show (if S y = true then n else n + 1) = _
    rw [o.1 y, o.2]
    by_cases hy : y ∈ x.l
    · simp [hy]
    · simp [hy]

/-! ### dicts by ints -/
structure DI (β : Type) where
  kv : List (Int × β)
def KReps {β : Type} (d : Dat β) (C : GCtx) (F : Hp) : List (Key × V) → List (Int × β) → Prop
  | [], [] => True
  | p :: ps, x :: xs => p.1 = Sum.inl x.1 ∧ d.rep C F p.2 x.2 ∧ KReps d C F ps xs
  | _, _ => False
section
variable {F F' : Hp}
theorem KReps.mono (s : Same F F') : ∀ {ps : List (Key × V)} {xs : List (Int × α)}, KReps d C F ps xs → KReps d C F' ps xs
  | [], [], _ => trivial
  | _ :: _, _ :: _, h => ⟨h.1, d.mono s h.2.1, KReps.mono s h.2.2⟩
  | [], _ :: _, h => h.elim
  | _ :: _, [], h => h.elim
theorem KReps.len : ∀ {ps : List (Key × V)} {xs : List (Int × α)}, KReps d C F ps xs → ps.length = xs.length
  | [], [], _ => rfl
  | _ :: _, _ :: _, h => by simp [KReps.len h.2.2]
  | [], _ :: _, h => h.elim
  | _ :: _, [], h => h.elim
theorem valV_cons {κ : Type} [DecidableEq κ] (p : κ × V) (ps : List (κ × V)) (k : κ) : valV (p :: ps) k = if p.1 = k then some p.2 else valV ps k := by
  unfold valV
  by_cases h : p.1 = k
  · rw [List.find?_cons_of_pos (by simp [h]), if_pos h]; rfl
  · rw [List.find?_cons_of_neg (by simp [h]), if_neg h]
theorem lookup_cons' {β : Type} (x : Int × β) (xs : List (Int × β)) (k : Int) : (x :: xs).lookup k = if x.1 = k then some x.2 else xs.lookup k := by
  obtain ⟨a, b⟩ := x
  rw [List.lookup_cons]
  by_cases h : a = k
  · subst h; simp
  · have : (k == a) = false := by simp; exact fun z => h z.symm
    rw [this]; simp [h]
theorem KReps.look : ∀ {ps : List (Key × V)} {xs : List (Int × α)} (k : Int), KReps d C F ps xs → (∀ x, xs.lookup k = some x → ∃ v, valV ps (Sum.inl k) = some v ∧ d.rep C F v x) ∧ (xs.lookup k = none → valV ps (Sum.inl k : Key) = none)
  | [], [], k, _ => ⟨fun _ h => (nomatch h), fun _ => rfl⟩
  | p :: ps, x :: xs, k, h => by
    rw [valV_cons, lookup_cons', h.1]
    by_cases hk : x.1 = k
    · rw [if_pos hk, if_pos (by rw [hk])]
      exact ⟨fun y e => ⟨p.2, rfl, by cases e; exact h.2.1⟩, fun z => (nomatch z)⟩
    · rw [if_neg hk, if_neg (fun z => hk (Sum.inl.inj z))]
      exact KReps.look k h.2.2
  | [], _ :: _, _, h => h.elim
  | _ :: _, [], _, h => h.elim
end
/-- d[k] = v on pairs -/
def putI {β : Type} (kv : List (Int × β)) (k : Int) (v : β) : List (Int × β) := if (kv.lookup k).isSome then kv.map (fun p => if p.1 = k then (k, v) else p) else kv ++ [(k, v)]
instance dDI {α : Type} [d : Dat α] : Dat (DI α) := ⟨fun C F v x => ∃ a ps, v = .ref a ∧ F a = some (.dK ps) ∧ KReps d C F ps x.kv, fun m ⟨a, ps, e, h, r⟩ => ⟨a, ps, e, m _ _ h, r.mono m⟩⟩
instance oDI {α : Type} [d : Dat α] : OD (DI α) where
  orep C F v x L := ∃ a ps, v = .ref a ∧ L = [(a, .dK ps)] ∧ KReps d C F ps x.kv
  omono m := fun ⟨a, ps, e, h, r⟩ => ⟨a, ps, e, h, r.mono m⟩
  view := fun ⟨a, ps, e, h, r⟩ m k => ⟨a, ps, e, k (a, .dK ps) (by rw [h]; exact List.mem_cons_self), r.mono m⟩
theorem w_inDI {kb : Bool → Prop} (h : R C ta Γ dInt fun x => R C tb Γ (dDI (d := d)) fun s => kb (s.kv.lookup x).isSome) : W C (tDIn ta tb) Γ dBool kb := fun e F σ H s Q q => h e F σ H s _ fun v1 F1 H1 x h1 g1 r1 => h1 e F1 σ H1 (s.grow g1) _ fun v2 F2 H2 s ky g2 ⟨a, ps, e2, ha, r⟩ => by
  cases (show v1 = .int x from r1)
  subst e2
  refine ⟨a, _, rfl, DGet.k (k := Sum.inl x) ha, q _ F2 H2 _ ky (g1.trans0 g2) ?_⟩
  have l := r.look x
  cases hq : s.kv.lookup x with
  | none => rw [l.2 hq]; rfl
  | some y => obtain ⟨v, hv, _⟩ := l.1 y hq; rw [hv]; rfl
theorem w_notinDI {kb : Bool → Prop} (h : R C ta Γ dInt fun x => R C tb Γ (dDI (d := d)) fun s => kb (!(s.kv.lookup x).isSome)) : W C (tDNotIn ta tb) Γ dBool kb := fun e F σ H s Q q => h e F σ H s _ fun v1 F1 H1 x h1 g1 r1 => h1 e F1 σ H1 (s.grow g1) _ fun v2 F2 H2 s ky g2 ⟨a, ps, e2, ha, r⟩ => by
  cases (show v1 = .int x from r1)
  subst e2
  refine ⟨a, _, rfl, DGet.k (k := Sum.inl x) ha, q _ F2 H2 _ ky (g1.trans0 g2) ?_⟩
  have l := r.look x
  cases hq : s.kv.lookup x with
  | none => rw [l.2 hq]; rfl
  | some y => obtain ⟨v, hv, _⟩ := l.1 y hq; rw [hv]; rfl
theorem w_dget {kx : α → Prop} (h : W C ta Γ (dDI (d := d)) fun s => R C tb Γ dInt fun x => ∃ y, s.kv.lookup x = some y ∧ kx y) : W C (tDGet ta tb) Γ d kx := fun e F σ H s Q q => h e F σ H s _ fun v1 F1 H1 s1 h1 g1 ⟨a, ps, e2, ha, r⟩ => h1 e F1 σ H1 (s.grow g1) _ fun v2 F2 H2 x ⟨y, hy, ky⟩ g2 r2 => by
  cases (show v2 = .int x from r2)
  subst e2
  obtain ⟨v, hv, rv⟩ := (r.look x).1 y hy
  refine ⟨a, v, rfl, ?_, q _ F2 H2 _ ky (g1.trans0 g2) (d.mono g2.ff rv)⟩
  have := DGet.k (k := Sum.inl x) (g2.fh _ _ (g2.ff _ _ ha))
  rw [hv] at this
  exact this
theorem r_dget {kx : α → Prop} (h : R C ta Γ (dDI (d := d)) fun s => R C tb Γ dInt fun x => ∃ y, s.kv.lookup x = some y ∧ kx y) : R C (tDGet ta tb) Γ d kx := fun e F σ H s Q q => h e F σ H s _ fun v1 F1 H1 s1 h1 g1 ⟨a, ps, e2, ha, r⟩ => h1 e F1 σ H1 (s.grow g1) _ fun v2 F2 H2 x ⟨y, hy, ky⟩ g2 r2 => by
  cases (show v2 = .int x from r2)
  subst e2
  obtain ⟨v, hv, rv⟩ := (r.look x).1 y hy
  refine ⟨a, v, rfl, ?_, q _ F2 H2 _ ky (g1.trans0 g2) (d.mono g2.hh0 rv)⟩
  have := DGet.k (k := Sum.inl x) (g2.hh0 _ _ ha)
  rw [hv] at this
  exact this
end
end G

section
set_option maxHeartbeats 2000000
/-! G5: lists or tuples; sorted of both; data owned within data. -/
namespace SrtO
open PySem PyProof.Rows Srt
section
variable {prog : Program} {w : World} {A : Around} {E : Value → Shared → Prop} {s : Shared}
/-- what is walked is laid into a list of its own: the heap behind it -/
theorem gather {l : Addr} {vs : List Value} {Q : List Value → Shared → Prop} {T : String} {o : Obj} {n : Nat} (hT : T = "list" ∨ T = "tuple") (ho : s.heap.get? l = some o) (hc : o.cls = .type T) (hd : o.data = .seq vs.toArray n) (hz : vs.length ≤ sizeLine)
    (hQ : Q vs { s with heap := (s.heap.push (seqObj "list" #[] 0)).update s.heap.objs.size (Obj.mapSeq (· ++ vs.toArray)) }) : wpAny (model prog w) A (collect (.ref l)) Q E s := by
  have hN : (s.heap.push (seqObj "list" #[] 0)).get? s.heap.objs.size = some (seqObj "list" #[] 0) := Heap.get?_push_size _ rfl
  have hU := get?_update_seq hN (· ++ vs.toArray)
  have back : wpAny (model prog w) A (load s.heap.objs.size >>= fun o => match o.data with | .seq xs _ => pure xs.toList | _ => unsupported "internal:collect") Q E { s with heap := (s.heap.push (seqObj "list" #[] 0)).update s.heap.objs.size (Obj.mapSeq (· ++ vs.toArray)) } := by
    refine wpAny_bind (wpAny_load hU (wpAny_pure ?_))
    have e1 : ((#[] : Array Value) ++ vs.toArray).toList = vs := by simp
    rw [e1]
    exact hQ
  unfold collect
  refine wpAny_bind (wpAny_runValue (codeAny_builtin entry_proto_collect' ?_))
  refine wpAny_bind (m := newList []) (wpAny_newList (wpAny_pure ⟨Code.quiet_builtin _ (by decide +kernel), codeAny_builtin entry_list_iadd' ?_⟩))
  have ext := wpAny_extend_seq (prog := prog) (w := w) (A := A) (s := { s with heap := s.heap.push (seqObj "list" #[] 0) }) (hsz := by simpa using hz) (R := fun r s' => r = .ok (.ret (.ref s.heap.objs.size)) ∧ s' = { s with heap := (s.heap.push (seqObj "list" #[] 0)).update s.heap.objs.size (Obj.mapSeq (· ++ vs.toArray)) }) s.heap.objs.size l (.ref s.heap.objs.size) 0 hT hN (Heap.get?_push_of_some _ ho) hc hd ⟨rfl, rfl⟩
  refine wpAny_mono ext (fun fin s' q => ?_) (fun e s' q => absurd q.1 (by simp))
  cases fin with
  | done f =>
    obtain ⟨z, rfl⟩ := q
    cases z
    exact back
  | again c' =>
    refine ⟨q.1, codeAny_mono q.2 fun r s'' z => ?_⟩
    obtain ⟨rfl, rfl⟩ := z
    exact back
/-- sorted(l), l a list or a tuple -/
theorem sorted_seq {l : Addr} {vs : List Value} {ltv : Value → Value → Bool} {Q : Value → Shared → Prop} {T : String} {o : Obj} {n : Nat} (O : Swo ltv) (hT : T = "list" ∨ T = "tuple") (ho : s.heap.get? l = some o) (hc : o.cls = .type T) (hd : o.data = .seq vs.toArray n) (hz : vs.length ≤ sizeLine)
    (hS : 2 ≤ vs.length → ∀ (h₁ : Heap) (a : Addr), h₁.get? a = some (seqObj "list" vs.toArray 0) → (∀ b o, s.heap.get? b = some o → b ≠ a ∧ h₁.get? b = some o) → SortableO prog w A.in1.in1 { s with heap := h₁ } a vs ltv)
    (h : ∀ (out : List Value) (h' : Heap) (p : Addr) (c : Nat), Srtd ltv out → Stb ltv out vs → (∀ b o, s.heap.get? b = some o → h'.get? b = some o) → s.heap.objs.size ≤ p → h'.get? p = some (seqObj "list" out.toArray c) → Q (.ref p) { s with heap := h' }) :
    wpAny (model prog w) A (call (.builtin "sorted") [.ref l]) Q E s := by
  refine Calls.call_function_entry kind_sorted plain_sorted entry_sorted (args_sorted1 _) ?_
  unfold Builtin.«sorted»
  refine wpAny_bind (m := checkCount "sorted" 1 1 _) (wpAny_pure ?_)
  refine wpAny_bind (gather hT ho hc hd hz ?_)
  refine wpAny_bind (wpAny_newList ?_ hz)
  generalize hh : (s.heap.push (seqObj "list" #[] 0)).update s.heap.objs.size (Obj.mapSeq (· ++ vs.toArray)) = h1
  have k1 : ∀ b u, s.heap.get? b = some u → h1.get? b = some u := fun b u q => by
    rw [← hh, Heap.get?_update_ne _ _ _ _ (Nat.ne_of_lt (Heap.lt_size q))]
    exact Heap.get?_push_of_some _ q
  have big : s.heap.objs.size ≤ h1.objs.size := by
    rw [← hh, Heap.size_update, size_push']
    exact Nat.le_succ _
  have hoL : (h1.push (seqObj "list" vs.toArray 0)).get? h1.objs.size = some (seqObj "list" vs.toArray 0) := Heap.get?_push_size _ rfl
  refine wpAny_bind (wpAny_holding (wpAny_call_entry slot_list_sort ⟨_, hoL, rfl⟩ entry_list_sort (list_sort_ord O hoL hz (fun h2 => hS h2 _ _ hoL fun b o q => ⟨Nat.ne_of_lt (Heap.lt_size (k1 b o q)), Heap.get?_push_of_some _ (k1 b o q)⟩) fun out hs hb => ⟨_, rfl, ?_⟩) (args_list_sort _)))
  obtain ⟨c, hc'⟩ := sortedHeap_at (vs := vs) (out := out.toArray) hoL
  refine wpAny_pure ⟨_, rfl, h out _ h1.objs.size c hs hb (fun b u e => ?_) big hc'⟩
  have hlt := Heap.lt_size (k1 b u e)
  exact (sortedHeap_old (Nat.ne_of_lt hlt) (by rw [size_push']; exact Nat.lt_succ_of_lt hlt)).trans (Heap.get?_push_of_some _ (k1 b u e))
end
end SrtO
namespace L2
open PySem PySem.Spec PyProof.Rows
/-- sorted(xs), ints, xs a list or a tuple -/
def rSortedQ (K : PySem.W.Frag) : List V → Hp → VK → Prop := fun vs H Q => ∃ (a : Addr) (ns : List Int), vs = [V.ref a] ∧ (SqL K H a (ns.map V.int) ∨ SqT K H a (ns.map V.int)) ∧
  ∀ (ns' : List Int) (p : Addr), ns'.Perm ns → ns'.Pairwise (· ≤ ·) → H p = none → Q (.ref p) (upd H p (.lst (ns'.map V.int)))
section
variable {X : Cx}
theorem cr_sortedQ : CallR X (.builtin "sorted") (rSortedQ X.K) := by
  intro pins s σ H xs us Q I r h
  obtain ⟨a, ns, rfl, hs, q⟩ := h
  have key : ∃ its T o n, Vals (ns.map V.int) its ∧ (T = "list" ∨ T = "tuple") ∧ s.heap.get? a = some o ∧ o.cls = .type T ∧ o.data = .seq its.toArray n ∧ (ns.map V.int).length ≤ sizeLine := by
    rcases hs with hs | hs
    · obtain ⟨its, rv, hl, hz⟩ := I.list hs
      obtain ⟨o, n, e, hc, _, hd⟩ := hl
      exact ⟨its, "list", o, n, rv, .inl rfl, e, hc, hd, hz⟩
    · obtain ⟨its, rv, hl, hz⟩ := I.tuple hs
      obtain ⟨o, e, hc, n, hd⟩ := hl
      exact ⟨its, "tuple", o, n, rv, .inr rfl, e, hc, hd, hz⟩
  obtain ⟨its, T, o, n, rv, hT, ho, hc, hd, hz⟩ := key
  rw [Vals.ref1 r]
  have hi := rv.ints
  refine SrtO.sorted_seq SrtO.swo_int hT ho hc hd (by rw [← rv.length]; exact hz) (fun h2 h₁ a' _ _ => SrtO.ints_sortable hi h2) fun out h' p c h1 h2 k hp hg => ?_
  obtain ⟨k1, k2, k3⟩ := SrtO.ints_out hi h1 h2
  have hlen : ((out.map SrtO.iv).map V.int).length ≤ sizeLine := by
    rw [List.length_map, k2.length_eq]
    rw [List.length_map] at hz
    exact hz
  exact ⟨.ref p, upd H p (.lst ((out.map SrtO.iv).map V.int)), I.laid (t' := s.toks) k hp ⟨hlen, out, c, vals_of_ints k1, hg⟩, rfl, q _ _ k2 k3 (I.hok.fresh hp)⟩
/-- what walks a list or a tuple -/
def iSeq (K : PySem.W.Frag) (tl : TE) : TI := fun σ H R => tl σ H fun x H1 => ∃ a, x = .ref a ∧ (((∃ xs, SqL K H1 a xs) ∧ R (Itl K a) H1) ∨ ((∃ xs, SqT K H1 a xs) ∧ R (Itt K a) H1))
theorem sortedQ_K (K : PySem.W.Frag) (h : X.K = K := by rfl) : CallR X (.builtin "sorted") (rSortedQ K) := h ▸ cr_sortedQ
/-- a new record that walks: the iterator's own object, just laid -/
theorem born {pins : List (Addr × Obj)} {σ : St} {H : Hp} {s : Shared} {R : It → Hp → Prop} {tg : Expr} {J : It} {tn : Nat → Heap → Prop} {ob : Obj} (I : Inv X pins σ H s) (T : Turn X.prog X.w X.K tg J [s.heap.objs.size] s.heap.objs.size tn) (t0 : tn 0 (s.heap.push ob)) (q : R J H) :
    PIE X pins σ tg R (.ref s.heap.objs.size) { s with heap := s.heap.push ob } :=
  ⟨_, _, _, _, H, rfl, I.kept (t' := s.toks) (fun _ _ z => Heap.get?_push_of_some _ z), T, t0, fun b hb => by
    cases List.mem_singleton.mp hb
    exact I.fpOk (Nat.le_refl _) (I.hok.fresh (Nat.le_refl _)), q⟩
theorem pi_seq {tg l : Expr} {tl : TE} (hl : PE X l tl) : PI X tg l (iSeq X.K tl) := ⟨fun pins s σ H R I h => thn (hl.run pins s σ H _ I h) fun v s1 ⟨x, H1, I1, r1, a, e, q1⟩ => by
  subst e
  cases r1
  rcases q1 with ⟨⟨xs, hq⟩, q⟩ | ⟨⟨xs, hq⟩, q⟩
  · obtain ⟨its, _, p, _⟩ := I1.list hq
    exact wpAny_pyIter_list p.isList (born I1 (turn_list a _) ⟨_, Heap.get?_push_size _ rfl, rfl, rfl⟩ q)
  · obtain ⟨its, _, p, _⟩ := I1.tuple hq
    exact wpAny_pyIter_tuple (show s1.heap.IsTuple a its.toArray from p) (born I1 (turn_tuple a _) ⟨_, Heap.get?_push_size _ rfl, rfl, rfl⟩ q)⟩
theorem pi_qK (K : PySem.W.Frag) {tg l : Expr} {tl : TE} (hl : PE X l tl) (h : X.K = K := by rfl) : PI X tg l (iSeq K tl) := h ▸ pi_seq hl
end
end L2
namespace G
open PySem L2
/-! ### a list or a tuple, its items alike -/
structure Sq (α : Type) where
  l : List α
  deriving DecidableEq
instance dSq {α : Type} [d : Dat α] : Dat (Sq α) :=
  ⟨fun C F v xs => ∃ a vs, v = .ref a ∧ (SqL C.K F a vs ∨ TpA C.K F a vs) ∧ Reps d C F vs xs.l, fun s ⟨a, vs, e, h, r⟩ => ⟨a, vs, e, h.imp s.seq (·.mono s), r.mono s⟩⟩
section
variable {C : GCtx} {Γ : List Cell} {te ta tb tc : TE} {t u tt : TT} {α β γ δ : Type} {d1 : Dat α} {d : Dat α} {d2 : Dat β} {k : Ks} {t1 t2 ts : TS} {g : TG}
theorem w_sqL {kx : Sq α → Prop} (h : W C te Γ (dList (d := d)) fun xs => kx ⟨xs⟩) : W C te Γ (dSq (d := d)) kx := fun e F σ H s Q q => h e F σ H s Q fun v F' H' x kx g ⟨a, vs, e, h, r⟩ => q v F' H' ⟨x⟩ kx g ⟨a, vs, e, .inl h, r⟩
theorem w_sqT {kx : Sq α → Prop} (h : W C te Γ (dTup (d := d)) fun xs => kx ⟨xs.l⟩) : W C te Γ (dSq (d := d)) kx := fun e F σ H s Q q => h e F σ H s Q fun v F' H' x kx g ⟨a, vs, e, h, r⟩ => q v F' H' ⟨x.l⟩ kx g ⟨a, vs, e, .inr h, r⟩
theorem r_sqL {kx : Sq α → Prop} (h : R C te Γ (dList (d := d)) fun xs => kx ⟨xs⟩) : R C te Γ (dSq (d := d)) kx := fun e F σ H s Q q => h e F σ H s Q fun v F' H' x kx g ⟨a, vs, e, h, r⟩ => q v F' H' ⟨x⟩ kx g ⟨a, vs, e, .inl h, r⟩
theorem r_sqT {kx : Sq α → Prop} (h : R C te Γ (dTup (d := d)) fun xs => kx ⟨xs.l⟩) : R C te Γ (dSq (d := d)) kx := fun e F σ H s Q q => h e F σ H s Q fun v F' H' x kx g ⟨a, vs, e, h, r⟩ => q v F' H' ⟨x.l⟩ kx g ⟨a, vs, e, .inr h, r⟩
theorem w_lenQ {k : Int → Prop} (h : R C ta Γ (dSq (d := d)) fun xs => k (xs.l.length : Int)) : W C (tCB (fun xs H Q => ∃ p ys, xs = [.ref p] ∧ (SqL C.K H p ys ∨ SqT C.K H p ys) ∧ Q (.int ys.length) H) (tCons ta tNil)) Γ dInt k := fun e F σ H s Q q => h e F σ H s _ fun v F' H' x kx g ⟨a, vs, e1, h1, r⟩ => by
  subst e1
  exact ⟨a, vs, rfl, h1.imp id (·.sq), q _ F' H' _ (by rw [r.len]; exact kx) g rfl⟩
theorem w_inQ [f : @Flat α d] [DecidableEq α] {k : Bool → Prop} (h : R C ta Γ d fun x => R C tb Γ (dSq (d := d)) fun xs => k (decide (x ∈ xs.l))) : W C (tOp (rIn C.K false) ta tb) Γ dBool k := fun e F σ H s Q q => h e F σ H s _ fun v1 F1 H1 x h1 g1 r1 => h1 e F1 σ H1 (s.grow g1) _ fun v2 F2 H2 xs kx g2 ⟨a, vs, e1, hs, r⟩ => by
  subst e1
  cases f.isEnc r1
  cases r.enc
  exact ⟨a, _, rfl, hs.imp id (·.sq), f.flat x, flat_all xs.l, q _ F2 H2 _ kx (g1.trans0 g2) (by rw [inV_flat x xs.l]; rfl)⟩
theorem w_notinQ [f : @Flat α d] [DecidableEq α] {k : Bool → Prop} (h : R C ta Γ d fun x => R C tb Γ (dSq (d := d)) fun xs => k (!decide (x ∈ xs.l))) : W C (tOp (rIn C.K true) ta tb) Γ dBool k := fun e F σ H s Q q => h e F σ H s _ fun v1 F1 H1 x h1 g1 r1 => h1 e F1 σ H1 (s.grow g1) _ fun v2 F2 H2 xs kx g2 ⟨a, vs, e1, hs, r⟩ => by
  subst e1
  cases f.isEnc r1
  cases r.enc
  exact ⟨a, _, rfl, hs.imp id (·.sq), f.flat x, flat_all xs.l, q _ F2 H2 _ kx (g1.trans0 g2) (by rw [inV_flat x xs.l]; rfl)⟩
theorem o_sortedQ {kx : List Int → Prop} (h : R C ta Γ (dSq (d := dInt)) fun xs => kx (isort xs.l)) : O C (tCB (rSortedQ C.K) (tCons ta tNil)) Γ (oList (d := dInt)) kx := fun e F σ H s Q q => h e F σ H s _ fun v F' H' xs kx g ⟨a, vs, e1, hs, r⟩ => by
  subst e1
  cases r.ints
  refine ⟨a, xs.l, rfl, hs.imp id (·.sq), fun ns' p pm pw hp => ?_⟩
  rw [isort_eq pm pw]
  obtain ⟨h1, h2⟩ := o_new (d := dInt) (L := []) g.base hp (Reps.ofInts (isort xs.l))
  exact q _ F' _ _ _ kx (by simpa using g.trans h1) h2
theorem o_listOfQ {k : List α → Prop} (h : W C ta Γ (dSq (d := d)) fun xs => k xs.l) : O C (tCB (fun xs H Q => ∃ p ys, xs = [.ref p] ∧ (SqL C.K H p ys ∨ SqT C.K H p ys) ∧ ∀ l, H l = none → Q (.ref l) (upd H l (.lst ys))) (tCons ta tNil)) Γ (oList (d := d)) k := fun e F σ H s Q q => h e F σ H s _ fun v F' H' xs kx g ⟨a, vs, e1, hs, r⟩ => by
  subst e1
  refine ⟨a, vs, rfl, hs.imp g.fh.seq (·.mono g.fh |>.sq), fun l hl => ?_⟩
  obtain ⟨h1, h2⟩ := o_new (L := []) g.base hl r
  exact q _ F' _ _ xs.l kx (by simpa using g.trans h1) h2
theorem w_tupOfQ {k : Tup α → Prop} (h : W C ta Γ (dSq (d := d)) fun xs => k ⟨xs.l⟩) : W C (tCB (fun xs H Q => ∃ p ys, xs = [.ref p] ∧ ((SqL C.K H p ys ∧ ∀ l, H l = none → Q (.ref l) (upd H l (.tup ys))) ∨ (SqT C.K H p ys ∧ Q (.ref p) H))) (tCons ta tNil)) Γ (dTup (d := d)) k := fun e F σ H s Q q => h e F σ H s _ fun v F' H' xs kx g ⟨a, vs, e1, hs, r⟩ => by
  subst e1
  rcases hs with hs | hs
  · refine ⟨a, vs, rfl, .inl ⟨g.fh.seq hs, fun l hl => ?_⟩⟩
    have g4 := Gr.lay (o := .tup vs) g.base hl
    exact q _ _ _ ⟨xs.l⟩ kx (g.trans0 g4) ⟨l, vs, rfl, .inl upd_same, r.mono g4.ff⟩
  · exact ⟨a, vs, rfl, .inr ⟨(hs.mono g.fh).sq, q _ F' H' ⟨xs.l⟩ kx g ⟨a, vs, rfl, hs, r⟩⟩⟩
theorem z_forQ {tl : TE} (h : W C tl Γ (dSq (d := d)) fun xs => Body C g ts d k (fun i => xs.l[i]?) xs.l.length Γ) : Z C (tFor (iSeq C.K tl) g ts) Γ k := fun e F σ H D hM s c => h e F σ H s _ fun v F1 H1 xs ⟨I, h0, hs, hd⟩ g1 ⟨a, vs, e1, hq, r⟩ => by
  subst e1
  have s1 := s.grow g1
  obtain ⟨L1, kw1, _⟩ := id s1
  have c1 := c.into kw1
  rcases hq with hq | hq
  · refine ⟨a, rfl, .inl ⟨⟨vs, g1.fh.seq hq⟩, for_list (K := C.K) (a := a) (xs := vs) (fun i σ H => ∃ F' Γ', State C ⟨F1, e.H0, e.M⟩ F' σ H Γ' ∧ I i Γ') ⟨F1, Γ, s1.into, h0⟩ (fun i σ H _ ⟨F', Γ', st, _⟩ => (st.ff.trans st.fh).seq hq) (fun i w σ H hw ⟨F', Γ', st, hi⟩ => ?_) fun σ H ⟨F', Γ', st, hi⟩ => ?_⟩⟩
    · obtain ⟨x, hx, rx⟩ := r.getV hw
      refine hs i x Γ' hx hi _ F' σ H w st (d.mono st.ff rx) _ fun σ2 Γ2 h2 st2 => ?_
      exact h2 ⟨F1, e.H0, e.M⟩ F' σ2 H _ hM st2 ⟨fun F3 σ3 H3 Γ3 k3 st3 => ⟨F3, Γ3, st3, k3⟩, c1.rt, c1.nx, fun F3 σ3 H3 Γ3 k3 st3 => ⟨F3, Γ3, st3, k3⟩⟩
    · rw [r.len] at hi
      exact c1.nx F' σ H Γ' (hd Γ' hi) st
  · refine ⟨a, rfl, .inr ⟨⟨vs, (hq.mono g1.fh).sq⟩, for_tup (K := C.K) (a := a) (xs := vs) (fun i σ H => ∃ F' Γ', State C ⟨F1, e.H0, e.M⟩ F' σ H Γ' ∧ I i Γ') ⟨F1, Γ, s1.into, h0⟩ (fun i σ H _ ⟨F', Γ', st, _⟩ => (hq.mono (st.ff.trans st.fh)).sq) (fun i w σ H hw ⟨F', Γ', st, hi⟩ => ?_) fun σ H ⟨F', Γ', st, hi⟩ => ?_⟩⟩
    · obtain ⟨x, hx, rx⟩ := r.getV hw
      refine hs i x Γ' hx hi _ F' σ H w st (d.mono st.ff rx) _ fun σ2 Γ2 h2 st2 => ?_
      exact h2 ⟨F1, e.H0, e.M⟩ F' σ2 H _ hM st2 ⟨fun F3 σ3 H3 Γ3 k3 st3 => ⟨F3, Γ3, st3, k3⟩, c1.rt, c1.nx, fun F3 σ3 H3 Γ3 k3 st3 => ⟨F3, Γ3, st3, k3⟩⟩
    · rw [r.len] at hi
      exact c1.nx F' σ H Γ' (hd Γ' hi) st
theorem o_lcQ {tl : TE} {vs : List Nat} {kx : List β → Prop} (hT : Tg g vs ∧ MoG g) (h : W C tl Γ (dSq (d := d)) fun xs => CompB C g tt te d d2 kx (fun i => xs.l[i]?) xs.l.length (wipeC Γ vs)) : O C (tLc (iSeq C.K tl) g tt te vs) Γ (oList (d := d2)) kx := fun e F σ H s Q q => h e F σ H s _ fun v F1 H1 xs ⟨I, h0, hs, hd⟩ g1 ⟨a, us, e1, hq, r⟩ => by
  subst e1
  refine ⟨a, rfl, ?_⟩
  rcases hq with hq | hq
  · refine .inl ⟨⟨us, g1.fh.seq hq⟩, fun D hD => ?_⟩
    have kw0 : Wk ⟨F1, H1, []⟩ F1 [(D, .lst [])] (upd H1 D (.lst [])) := g1.base.own hD (fun _ z => by cases z)
    refine lc_list (K := C.K) (a := a) (xs := us) (fun i H => ∃ F' acc ys, Wk ⟨F1, H1, []⟩ F' [(D, .lst acc)] H ∧ Reps d2 C F' acc ys ∧ I i ys) ⟨F1, [], [], kw0, trivial, h0⟩ (fun i H _ ⟨F', acc, ys, kw, _⟩ => (kw.ff.trans kw.fh).seq hq) (fun i w H hw p => ?_) fun H ⟨F', acc, ys, kw, ra, hi⟩ => ?_
    · obtain ⟨x, hx, rx⟩ := r.getV hw
      exact comp_turn (s.grow g1) hT.1 (hs i x · hx) (fun F' sm => d.mono sm rx) p
    · rw [r.len] at hi
      exact q _ F' H _ ys (hd ys hi) (by simpa using g1.trans kw) ⟨D, acc, rfl, rfl, ra⟩
  · refine .inr ⟨⟨us, (hq.mono g1.fh).sq⟩, fun D hD => ?_⟩
    have kw0 : Wk ⟨F1, H1, []⟩ F1 [(D, .lst [])] (upd H1 D (.lst [])) := g1.base.own hD (fun _ z => by cases z)
    refine lc_tup (K := C.K) (a := a) (xs := us) (fun i H => ∃ F' acc ys, Wk ⟨F1, H1, []⟩ F' [(D, .lst acc)] H ∧ Reps d2 C F' acc ys ∧ I i ys) ⟨F1, [], [], kw0, trivial, h0⟩ (fun i H _ ⟨F', acc, ys, kw, _⟩ => (hq.mono (kw.ff.trans kw.fh)).sq) (fun i w H hw p => ?_) fun H ⟨F', acc, ys, kw, ra, hi⟩ => ?_
    · obtain ⟨x, hx, rx⟩ := r.getV hw
      exact comp_turn (s.grow g1) hT.1 (hs i x · hx) (fun F' sm => d.mono sm rx) p
    · rw [r.len] at hi
      exact q _ F' H _ ys (hd ys hi) (by simpa using g1.trans kw) ⟨D, acc, rfl, rfl, ra⟩

/-! ### lists owned within lists, within dicts -/
/-- each item owned: their values, their footprints one behind the other -/
def OReps {α : Type} {d : Dat α} (od : OD α) (C : GCtx) (F : Hp) : List V → List α → LO → Prop
  | [], [], L => L = []
  | v :: vs, x :: xs, L => ∃ L1 L2, L = L1 ++ L2 ∧ od.orep C F v x L1 ∧ OReps od C F vs xs L2
  | _, _, _ => False
theorem OReps.mono {od : @OD α d} {F F' : Hp} (s : Same F F') : ∀ {vs : List V} {xs : List α} {L : LO}, OReps od C F vs xs L → OReps od C F' vs xs L
  | [], [], _, h => h
  | _ :: _, _ :: _, _, ⟨L1, L2, e, h1, h2⟩ => ⟨L1, L2, e, od.omono s h1, OReps.mono s h2⟩
  | [], _ :: _, _, h => h.elim
  | _ :: _, [], _, h => h.elim
theorem OReps.view {od : @OD α d} {F H : Hp} (s : Same F H) : ∀ {vs : List V} {xs : List α} {L : LO}, OReps od C F vs xs L → (∀ p ∈ L, H p.1 = some p.2) → Reps d C H vs xs
  | [], [], _, _, _ => trivial
  | _ :: _, _ :: _, _, ⟨L1, L2, e, h1, h2⟩, k => ⟨od.view h1 s fun p hp => k p (by rw [e]; exact List.mem_append_left _ hp), OReps.view s h2 fun p hp => k p (by rw [e]; exact List.mem_append_right _ hp)⟩
  | [], _ :: _, _, h, _ => h.elim
  | _ :: _, [], _, h, _ => h.elim
theorem OReps.len {od : @OD α d} {F : Hp} : ∀ {vs : List V} {xs : List α} {L : LO}, OReps od C F vs xs L → vs.length = xs.length
  | [], [], _, _ => rfl
  | _ :: _, _ :: _, _, ⟨_, _, _, _, h2⟩ => by simp [OReps.len h2]
  | [], _ :: _, _, h => h.elim
  | _ :: _, [], _, h => h.elim
theorem OReps.append {od : @OD α d} {F : Hp} {ws : List V} {ys : List α} {M : LO} : ∀ {vs : List V} {xs : List α} {L : LO}, OReps od C F vs xs L → OReps od C F ws ys M → OReps od C F (vs ++ ws) (xs ++ ys) (L ++ M)
  | [], [], _, h, g => by cases (show _ = [] from h); exact g
  | _ :: _, _ :: _, _, ⟨L1, L2, e, h1, h2⟩, g => ⟨L1, L2 ++ M, by rw [e, List.append_assoc], h1, OReps.append h2 g⟩
  | [], _ :: _, _, h, _ => h.elim
  | _ :: _, [], _, h, _ => h.elim
theorem OReps.one {od : @OD α d} {F : Hp} {v : V} {x : α} {L : LO} (h : od.orep C F v x L) : OReps od C F [v] [x] L := ⟨L, [], by simp, h, rfl⟩
theorem OReps.at {od : @OD α d} {F : Hp} : ∀ {vs : List V} {xs : List α} {L : LO} {i : Nat} {x : α}, OReps od C F vs xs L → xs[i]? = some x → ∃ v L1 Li L2, vs[i]? = some v ∧ L = L1 ++ Li ++ L2 ∧ od.orep C F v x Li ∧ ∀ x' Li', od.orep C F v x' Li' → OReps od C F vs (xs.set i x') (L1 ++ Li' ++ L2)
  | [], [], _, i, _, _, e => by cases i <;> cases e
  | v :: vs, y :: xs, L, 0, x, ⟨L1, L2, e, h1, h2⟩, hx => by
    cases (Option.some.inj hx : y = x)
    exact ⟨v, [], L1, L2, rfl, by simpa using e, h1, fun x' Li' h => ⟨Li', L2, by simp, h, h2⟩⟩
  | v :: vs, y :: xs, L, i + 1, x, ⟨L1, L2, e, h1, h2⟩, hx => by
    obtain ⟨w, M1, Mi, M2, e1, e2, h3, f⟩ := OReps.at (i := i) h2 hx
    exact ⟨w, L1 ++ M1, Mi, M2, e1, by rw [e, e2]; simp [List.append_assoc], h3, fun x' Li' h => ⟨L1, M1 ++ Li' ++ M2, by simp [List.append_assoc], h1, f x' Li' h⟩⟩
  | [], _ :: _, _, _, _, h, _ => h.elim
  | _ :: _, [], _, _, _, h, _ => h.elim
/-- a list that owns its items -/
@[reducible] def oDeep {α : Type} {d : Dat α} (od : OD α) : @OD (List α) dList where
  orep C F v xs L := ∃ a vs L', v = .ref a ∧ L = (a, .lst vs) :: L' ∧ OReps od C F vs xs L'
  omono s := fun ⟨a, vs, L', e, h, r⟩ => ⟨a, vs, L', e, h, r.mono s⟩
  view := fun ⟨a, vs, L', e, h, r⟩ s k => ⟨a, vs, e, .inl (.inl (k (a, .lst vs) (by rw [h]; exact List.mem_cons_self))), r.view s fun p hp => k p (by rw [h]; exact List.mem_cons_of_mem _ hp)⟩
instance mDeep {α : Type} [d : Dat α] {od : OD α} [i : OIm α od] : OIm (List α) (oDeep od) := ⟨fun {C F H v xs L} t ⟨a, vs, L', e, h, r⟩ => ⟨a, vs, L', e, h, by
  have go : ∀ {vs : List V} {xs : List α} {L : LO}, OReps od C H vs xs L → OReps od C F vs xs L := by
    intro vs xs L h
    induction vs generalizing xs L with
    | nil => cases xs with
      | nil => exact h
      | cons _ _ => exact h.elim
    | cons v vs ih => cases xs with
      | nil => exact h.elim
      | cons x xs => obtain ⟨L1, L2, e, h1, h2⟩ := h; exact ⟨L1, L2, e, i.oimm t h1, ih h2⟩
  exact go r⟩⟩
/-- each value owned -/
def OKReps {β : Type} {d : Dat β} (od : OD β) (C : GCtx) (F : Hp) : List (Key × V) → List (Int × β) → LO → Prop
  | [], [], L => L = []
  | p :: ps, x :: xs, L => ∃ L1 L2, L = L1 ++ L2 ∧ p.1 = Sum.inl x.1 ∧ od.orep C F p.2 x.2 L1 ∧ OKReps od C F ps xs L2
  | _, _, _ => False
theorem OKReps.mono {od : @OD α d} {F F' : Hp} (s : Same F F') : ∀ {ps : List (Key × V)} {xs : List (Int × α)} {L : LO}, OKReps od C F ps xs L → OKReps od C F' ps xs L
  | [], [], _, h => h
  | _ :: _, _ :: _, _, ⟨L1, L2, e, hk, h1, h2⟩ => ⟨L1, L2, e, hk, od.omono s h1, OKReps.mono s h2⟩
  | [], _ :: _, _, h => h.elim
  | _ :: _, [], _, h => h.elim
theorem OKReps.view {od : @OD α d} {F H : Hp} (s : Same F H) : ∀ {ps : List (Key × V)} {xs : List (Int × α)} {L : LO}, OKReps od C F ps xs L → (∀ p ∈ L, H p.1 = some p.2) → KReps d C H ps xs
  | [], [], _, _, _ => trivial
  | _ :: _, _ :: _, _, ⟨L1, L2, e, hk, h1, h2⟩, k => ⟨hk, od.view h1 s fun p hp => k p (by rw [e]; exact List.mem_append_left _ hp), OKReps.view s h2 fun p hp => k p (by rw [e]; exact List.mem_append_right _ hp)⟩
  | [], _ :: _, _, h, _ => h.elim
  | _ :: _, [], _, h, _ => h.elim
theorem OKReps.append {od : @OD α d} {F : Hp} {ws : List (Key × V)} {ys : List (Int × α)} {M : LO} : ∀ {vs : List (Key × V)} {xs : List (Int × α)} {L : LO}, OKReps od C F vs xs L → OKReps od C F ws ys M → OKReps od C F (vs ++ ws) (xs ++ ys) (L ++ M)
  | [], [], _, h, g => by cases (show _ = [] from h); exact g
  | _ :: _, _ :: _, _, ⟨L1, L2, e, hk, h1, h2⟩, g => ⟨L1, L2 ++ M, by rw [e, List.append_assoc], hk, h1, OKReps.append h2 g⟩
  | [], _ :: _, _, h, _ => h.elim
  | _ :: _, [], _, h, _ => h.elim
/-- xs at k becomes x' (the first pair with that key) -/
def setI {β : Type} : List (Int × β) → Int → β → List (Int × β)
  | [], _, _ => []
  | p :: ps, k, x => if p.1 = k then (p.1, x) :: ps else p :: setI ps k x
theorem OKReps.at {od : @OD α d} {F : Hp} : ∀ {ps : List (Key × V)} {xs : List (Int × α)} {L : LO} {i : Int} {x : α}, OKReps od C F ps xs L → xs.lookup i = some x → ∃ v L1 Li L2, valV ps (Sum.inl i) = some v ∧ L = L1 ++ Li ++ L2 ∧ od.orep C F v x Li ∧ ∀ x' Li', od.orep C F v x' Li' → OKReps od C F ps (setI xs i x') (L1 ++ Li' ++ L2)
  | [], [], _, i, _, _, e => by cases e
  | p :: vs, y :: xs, L, i, x, ⟨L1, L2, e, hk, h1, h2⟩, hx => by
    rw [lookup_cons'] at hx
    rw [valV_cons, hk]
    unfold setI
    by_cases hi : y.1 = i
    · rw [if_pos hi] at hx
      cases (Option.some.inj hx : y.2 = x)
      refine ⟨p.2, [], L1, L2, by rw [if_pos (by rw [hi])], by simpa using e, h1, fun x' Li' h => ?_⟩
      rw [if_pos hi]
      exact ⟨Li', L2, by simp, hk, h, h2⟩
    · rw [if_neg hi] at hx
      simp only [if_neg hi]
      obtain ⟨w, M1, Mi, M2, e1, e2, h3, f⟩ := OKReps.at (i := i) h2 hx
      exact ⟨w, L1 ++ M1, Mi, M2, by rw [if_neg (fun z => hi (Sum.inl.inj z)), e1], by rw [e, e2]; simp [List.append_assoc], h3, fun x' Li' h => ⟨L1, M1 ++ Li' ++ M2, by simp [List.append_assoc], hk, h1, f x' Li' h⟩⟩
  | [], _ :: _, _, _, _, h, _ => h.elim
  | _ :: _, [], _, _, _, h, _ => h.elim
/-- a dict that owns its values -/
@[reducible] def oDeepDI {β : Type} {d : Dat β} (od : OD β) : @OD (DI β) dDI where
  orep C F v x L := ∃ a ps L', v = .ref a ∧ L = (a, .dK ps) :: L' ∧ OKReps od C F ps x.kv L'
  omono s := fun ⟨a, vs, L', e, h, r⟩ => ⟨a, vs, L', e, h, r.mono s⟩
  view := fun ⟨a, ps, L', e, h, r⟩ s k => ⟨a, ps, e, k (a, .dK ps) (by rw [h]; exact List.mem_cons_self), r.view s fun p hp => k p (by rw [h]; exact List.mem_cons_of_mem _ hp)⟩
/-- d[k].append(y) -/
theorem z_appendDI {pin : Option V} {i : Nat} {x : DI (List α)} (hi : Γ[i]? = some (.own (dDI (d := dList (d := d))) (oDeepDI (oList (d := d))) pin x)) (h : R C ta Γ dInt fun n => ∃ xs, x.kv.lookup n = some xs ∧ W C te Γ d fun y => xs.length < PySem.sizeLine ∧ k.nx (Γ.set i (.own (dDI (d := dList (d := d))) (oDeepDI (oList (d := d))) pin ⟨setI x.kv n (xs ++ [y])⟩))) :
    Z C (tDrop (tBM C.K "list" rAppend (tDGet (tVar i) ta) (tCons te tNil))) Γ k := fun e F σ H D hM s c => by
  obtain ⟨v0, e1, r0⟩ := s.own hi
  refine ⟨v0, e1, h e F σ H s _ fun v1 F1 H1 n ⟨xs, hx, hw⟩ g1 r1 => ?_⟩
  cases (show v1 = .int n from r1)
  obtain ⟨v, Li, rest, e2, ⟨a, ps, L', rfl, rfl, r⟩, kw, f⟩ := (s.grow g1).mut hi
  rw [e1] at e2
  cases (Option.some.inj e2)
  have ha : H1 a = some (.dK ps) := (kw.ow (a, .dK ps) (by simp)).2.1
  obtain ⟨w, M1, Mi, M2, e3, e4, ⟨b, us, rfl, rfl, ru⟩, f2⟩ := r.at hx
  have hb : H1 b = some (.lst us) := (kw.ow (b, .lst us) (by rw [e4]; simp)).2.1
  have hg := DGet.k (k := Sum.inl n) ha
  rw [e3] at hg
  refine ⟨a, .ref b, rfl, hg, .inl ⟨rfl, us, .inl (.inl hb)⟩, hw e F1 σ H1 (s.grow g1) _ fun y F2 H2 yv ⟨hl, ky⟩ g2 ry => ?_⟩
  have hb2 : H2 b = some (.lst us) := g2.hh0 _ _ hb
  refine ⟨b, us, y, rfl, rfl, hb2, by rw [ru.len]; exact hl, ?_⟩
  have kw2 := kw.trans0 g2
  obtain ⟨w2, N1, Ni, N2, e5, e6, ⟨b2, us2, h7, h8, ru2⟩, f3⟩ := (r.mono g2.ff).at hx
  rw [e3] at e5
  cases (Option.some.inj e5)
  cases h7
  subst h8
  have hb3 : H2 b = some (.lst us2) := (kw2.ow (b, .lst us2) (by rw [e6]; simp)).2.1
  rw [hb2] at hb3
  cases (Option.some.inj hb3)
  have st2 := (s.grow g1).grow g2
  obtain ⟨v', Li', rest', e9, _, _, f9⟩ := st2.mut hi
  refine c.nx F2 σ _ _ ky ?_
  have q3 := f3 (xs ++ [yv]) [(b, .lst (us ++ [y]))] ⟨b, _, rfl, rfl, (ru.mono g2.ff).append (Reps.one ry)⟩
  obtain ⟨L0, k0, sl0⟩ := st2
  obtain ⟨o0, P1, Pi, P2, f1, f22, ⟨u0, rfl, hp0, a0, ps0, L0', h30, h31, r30⟩, f4⟩ := sl0.get hi
  rw [e1] at f1
  cases (Option.some.inj f1)
  cases h30
  subst h31 f22
  have ha0 : H2 a = some (.dK ps0) := (k0.ow (a, .dK ps0) (by simp)).2.1
  rw [g2.hh0 _ _ ha] at ha0
  cases (Option.some.inj ha0)
  obtain ⟨w4, Q1, Qi, Q2, e10, e11, ⟨b4, us4, h40, h41, ru4⟩, f5⟩ := r30.at hx
  rw [e3] at e10
  cases (Option.some.inj e10)
  cases h40
  subst h41 e11
  have hb4 : H2 b = some (.lst us4) := (k0.ow (b, .lst us4) (by simp)).2.1
  rw [hb2] at hb4
  cases (Option.some.inj hb4)
  have q5 := f5 (xs ++ [yv]) [(b, .lst (us ++ [y]))] ⟨b, _, rfl, rfl, ru4.append (Reps.one ry)⟩
  have q6 := f4 F2 (some (.ref a)) (.own (dDI (d := dList (d := d))) (oDeepDI (oList (d := d))) pin ⟨setI x.kv n (xs ++ [yv])⟩) ((a, .dK ps) :: (Q1 ++ [(b, .lst (us ++ [y]))] ++ Q2)) (Same.refl _) ⟨.ref a, rfl, hp0, a, ps, _, rfl, rfl, q5⟩
  have z : σ.set i (some (.ref a)) = σ := by
    apply List.ext_getElem?
    intro j
    by_cases hj : i = j
    · subst hj
      obtain ⟨hlt, hv⟩ := List.getElem?_eq_some_iff.mp e1
      rw [List.getElem?_set_self hlt, e1]
    · rw [List.getElem?_set_ne hj]
  rw [z] at q6
  refine ⟨_, ?_, q6⟩
  have k1 : Wk e F2 ((P1 ++ (a, .dK ps) :: Q1) ++ [(b, .lst us)] ++ (Q2 ++ P2)) H2 := by simpa [List.append_assoc] using k0
  have k2 := k1.front.put (o' := .lst (us ++ [y])) (fun _ z => by cases z)
  have k3 : Wk e F2 ((P1 ++ (a, .dK ps) :: Q1) ++ [(b, .lst (us ++ [y]))] ++ (Q2 ++ P2)) (upd H2 b (.lst (us ++ [y]))) := Wk.back (Li := [(b, .lst (us ++ [y]))]) k2
  simpa [List.append_assoc] using k3
end
end G
end

/-! G6: small helps. -/
namespace G
open PySem L2
theorem atI_of {α : Type} {xs : List α} {i : Int} {x : α} (h0 : 0 ≤ i) (h : xs[i.toNat]? = some x) : atI xs i = some x := by
  obtain ⟨j, rfl⟩ : ∃ j : Nat, i = j := ⟨i.toNat, by omega⟩
  exact atI_nat h
theorem ix_int {xs : List Int} {i : Int} {k : Int → Prop} (h0 : 0 ≤ i) (h1 : i < xs.length) (h : k (xs.getD i.toNat 0)) : ∃ x, atI xs i = some x ∧ k x := by
  have hlt : i.toNat < xs.length := by omega
  refine ⟨xs[i.toNat], atI_of h0 (by simp [hlt]), ?_⟩
  rw [List.getD_eq_getElem?_getD, List.getElem?_eq_getElem hlt] at h
  exact h
/-- any item in bounds -/
theorem ix_all {α : Type} {xs : List α} {i : Int} {k : α → Prop} (h0 : 0 ≤ i) (h1 : i < xs.length) (h : ∀ x, xs[i.toNat]? = some x → k x) : ∃ x, atI xs i = some x ∧ k x := by
  have hlt : i.toNat < xs.length := by omega
  have e : xs[i.toNat]? = some xs[i.toNat] := by simp [hlt]
  exact ⟨xs[i.toNat], atI_of h0 e, h _ e⟩
theorem small1k {n : Nat} (h : n ≤ 100000) : n < PySem.sizeLine := Nat.lt_of_le_of_lt h (by decide)
theorem nd_of {p : Prop} [Decidable p] (h : (!decide p) = true) : ¬ p := by simpa using h
theorem nd_no {p : Prop} [Decidable p] (h : (!decide p) = false) : p := by simpa using h
theorem d_of {p : Prop} [Decidable p] (h : decide p = true) : p := by simpa using h
theorem d_no {p : Prop} [Decidable p] (h : decide p = false) : ¬ p := by simpa using h
theorem nodup_snoc {α : Type} {xs : List α} {x : α} (h : xs.Nodup) (hx : x ∉ xs) : (xs ++ [x]).Nodup :=
  List.nodup_append.mpr ⟨h, by simp, fun a ha b hb e => hx (by rw [List.mem_singleton] at hb; rw [← hb, ← e]; exact ha)⟩
theorem rng_some {lo : Int} {n i : Nat} {x : Int} (h : rng lo n i = some x) : i < n ∧ x = lo + i := by
  unfold rng at h
  split at h
  · next hi => exact ⟨hi, by cases h; rfl⟩
  · cases h

/-! ### dict comprehensions: new keys, owned values -/
theorem t_not' {C : GCtx} {Γ : List Cell} {t : TT} {a : Bool} (h : T C t Γ (· = a)) : T C (tNot t) Γ (· = !a) := t_not (t_mono h fun x e => by subst e; rfl)
section
variable {C : GCtx} {Γ : List Cell} {te ta tb tc tk tv : TE} {t u tt : TT} {α β γ δ : Type} {d1 : Dat α} {d : Dat α} {d2 : Dat β} {k : Ks} {t1 t2 ts : TS} {g : TG}
theorem KReps_has {od : @OD β d2} {F : Hp} : ∀ {ps : List (Key × V)} {xs : List (Int × β)} {L : LO}, OKReps od C F ps xs L → ps.map (·.1) = xs.map fun p => (Sum.inl p.1 : Key)
  | [], [], _, _ => rfl
  | _ :: _, _ :: _, _, ⟨_, _, _, hk, _, h2⟩ => by simp [hk, KReps_has h2]
  | [], _ :: _, _, h => h.elim
  | _ :: _, [], _, h => h.elim
theorem putK_fresh {ps : List (Key × V)} {k : Key} {v : V} (h : valV ps k = none) : putK ps k v = ps ++ [(k, v)] := putK_new _ h
theorem OKReps.none {od : @OD β d2} {F : Hp} : ∀ {ps : List (Key × V)} {xs : List (Int × β)} {L : LO} {i : Int}, OKReps od C F ps xs L → xs.lookup i = none → valV ps (Sum.inl i : Key) = none
  | [], [], _, _, _, _ => rfl
  | p :: ps, x :: xs, _, i, ⟨_, _, _, hk, _, h2⟩, e => by
    rw [lookup_cons'] at e
    rw [valV_cons, hk]
    by_cases hi : x.1 = i
    · rw [if_pos hi] at e; cases e
    · rw [if_neg hi] at e
      rw [if_neg (fun z => hi (Sum.inl.inj z))]
      exact OKReps.none h2 e
  | [], _ :: _, _, _, h, _ => h.elim
  | _ :: _, [], _, _, h, _ => h.elim
theorem OKReps.len {od : @OD β d2} {F : Hp} {ps : List (Key × V)} {xs : List (Int × β)} {L : LO} (h : OKReps od C F ps xs L) : ps.length = xs.length := by
  have := congrArg List.length (KReps_has h)
  simpa using this
def DictB (C : GCtx) (g : TG) (tt : TT) (tk tv : TE) {α β : Type} (d : Dat α) {d2 : Dat β} (od : OD β) (kx : DI β → Prop) (get : Nat → Option α) (n : Nat) (Γ : List Cell) : Prop :=
  ∃ I : Nat → List (Int × β) → Prop, I 0 [] ∧ (∀ i x kv, get i = some x → I i kv → A C g Γ d x fun Γ2 => T C tt Γ2 fun b => (b = true → W C tk Γ2 dInt fun key => O C tv Γ2 od fun val => kv.lookup key = none ∧ kv.length < PySem.sizeLine ∧ I (i + 1) (kv ++ [(key, val)])) ∧ (b = false → I (i + 1) kv)) ∧ ∀ kv, I n kv → kx ⟨kv⟩
theorem wipe_wipe {vs : List Nat} (σ0 : St) : wipe (wipe σ0 vs) vs = wipe σ0 vs := by
  have : ∀ (l : List Nat) (σ1 : St), (∀ j ∈ l, (σ1[j]? = none ∨ σ1[j]? = some none)) → wipe σ1 l = σ1 := by
    intro l
    induction l with
    | nil => intro _ _; rfl
    | cons j l ih =>
      intro σ1 hj
      unfold wipe
      rw [ih σ1 fun m hm => hj m (List.mem_cons_of_mem _ hm)]
      apply List.ext_getElem?
      intro m
      rw [List.getElem?_set]
      by_cases hm : j = m
      · subst hm
        rcases hj j List.mem_cons_self with z | z
        · rw [z, if_pos rfl, if_neg (Nat.not_lt.mpr (List.getElem?_eq_none_iff.mp z))]
        · rw [z, if_pos rfl, if_pos (List.getElem?_eq_some_iff.mp z).1]
      · rw [if_neg hm]
  refine this vs _ fun j hj => ?_
  cases q : (wipe σ0 vs)[j]? with
  | none => exact .inl rfl
  | some o =>
    cases o with
    | none => exact .inr rfl
    | some y => exact absurd hj (wipe_some q).2
theorem dict_turn {od : @OD β d2} {e : En} {F1 : Hp} {σ : St} {H1 : Hp} {vs : List Nat} {D : Addr} {x : α} {v : V} {I I' : List (Int × β) → Prop} (s1 : State C e F1 σ H1 Γ) (hT : Tg g vs)
    (hs : ∀ kv, I kv → A C g (wipeC Γ vs) d x fun Γ2 => T C tt Γ2 fun b => (b = true → W C tk Γ2 dInt fun key => O C tv Γ2 od fun val => kv.lookup key = none ∧ kv.length < PySem.sizeLine ∧ I' (kv ++ [(key, val)])) ∧ (b = false → I' kv)) (rx : ∀ F', Same F1 F' → d.rep C F' v x) {H : Hp}
    (h : ∃ F' ps kv L, Wk ⟨F1, H1, []⟩ F' ((D, .dK ps) :: L) H ∧ OKReps od C F' ps kv L ∧ I kv) :
    g v (wipe σ vs) H fun σ2 H2 => wipe σ2 vs = wipe σ vs ∧ tt σ2 H2 fun b H3 =>
      if b = true then tk σ2 H3 fun y H4 => tv σ2 H4 fun z H5 => ∃ kvs k, y = kV k ∧ H5 D = some (.dK kvs) ∧ kvs.length < PySem.sizeLine ∧ (∃ F' ps kv L, Wk ⟨F1, H1, []⟩ F' ((D, .dK ps) :: L) (upd H5 D (.dK (putK kvs k z))) ∧ OKReps od C F' ps kv L ∧ I' kv) else (∃ F' ps kv L, Wk ⟨F1, H1, []⟩ F' ((D, .dK ps) :: L) H3 ∧ OKReps od C F' ps kv L ∧ I' kv) := by
  obtain ⟨F', ps, kv, L, kw, r, hi⟩ := h
  have st := (s1.growL kw).wipe vs
  have key := hs kv hi e F' _ H v st (rx F' kw.ff) (fun σ2 H2 => tt σ2 H2 fun b H3 =>
      if b = true then tk σ2 H3 fun y H4 => tv σ2 H4 fun z H5 => ∃ kvs k, y = kV k ∧ H5 D = some (.dK kvs) ∧ kvs.length < PySem.sizeLine ∧ (∃ F' ps kv L, Wk ⟨F1, H1, []⟩ F' ((D, .dK ps) :: L) (upd H5 D (.dK (putK kvs k z))) ∧ OKReps od C F' ps kv L ∧ I' kv) else (∃ F' ps kv L, Wk ⟨F1, H1, []⟩ F' ((D, .dK ps) :: L) H3 ∧ OKReps od C F' ps kv L ∧ I' kv)) fun σ2 Γ2 h2 st2 => by
    refine h2 e F' σ2 H st2 _ fun b F3 H3 kb g3 => ?_
    have kw3 := kw.trans0 g3
    cases b with
    | false => exact ⟨F3, ps, kv, L, kw3, r.mono g3.ff, kb.2 rfl⟩
    | true =>
      have st3 := st2.grow g3
      refine kb.1 rfl e F3 σ2 H3 st3 _ fun y F4 H4 yv hy g4 ry => ?_
      have st4 := st3.grow g4
      refine hy e F4 σ2 H4 st4 _ fun z F5 H5 Lz zv ⟨hn, hl, hI⟩ g5 rz => ?_
      cases (show y = .int yv from ry)
      have kw4 := kw3.trans0 g4
      have kw5 := kw4.trans g5
      have r5 := r.mono ((g3.ff.trans g4.ff).trans g5.ff)
      have hD : H5 D = some (.dK ps) := (kw5.ow (D, .dK ps) (by simp)).2.1
      refine ⟨ps, Sum.inl yv, rfl, hD, by rw [r5.len]; exact hl, F5, ps ++ [(Sum.inl yv, z)], kv ++ [(yv, zv)], L ++ Lz, ?_, r5.append ⟨Lz, [], by simp, rfl, rz, rfl⟩, hI⟩
      rw [putK_fresh (r5.none hn)]
      have k6 : Wk ⟨F1, H1, []⟩ F5 (Lz ++ [(D, .dK ps)] ++ L) H5 := by simpa [List.append_assoc] using kw5
      have k7 : Wk ⟨F1, H1, []⟩ F5 ((D, .dK (ps ++ [(Sum.inl yv, z)])) :: (Lz ++ L)) _ := k6.front.put (o' := .dK (ps ++ [(Sum.inl yv, z)])) (fun _ z => by cases z)
      refine k7.sub (fun p hp => ?_) ?_
      · simp only [List.mem_cons, List.mem_append] at hp ⊢
        rcases hp with h | h | h <;> simp [h]
      · exact (List.Perm.nodup_iff (List.Perm.map _ (List.Perm.cons _ List.perm_append_comm))).mp k7.nd
  have key2 := hT v _ H _ key
  rw [wipe_wipe] at key2
  exact key2
theorem dc_list {K : PySem.W.Frag} {a : Addr} {xs : List V} {g : TG} {tt : TT} {tk tv : TE} {vs : List Nat} {σ : St} {H1 : Hp} {D : Addr} {Qd : Hp → Prop} (Pv : Nat → Hp → Prop) (h0 : Pv 0 (upd H1 D (.dK []))) (hl : ∀ i H, i ≤ xs.length → Pv i H → SqL K H a xs)
    (hs : ∀ i x H, xs[i]? = some x → Pv i H → g x (wipe σ vs) H fun σ2 H2 => wipe σ2 vs = wipe σ vs ∧ tt σ2 H2 fun b H3 =>
      if b = true then tk σ2 H3 fun y H4 => tv σ2 H4 fun z H5 => ∃ kvs k, y = kV k ∧ H5 D = some (.dK kvs) ∧ kvs.length < PySem.sizeLine ∧ Pv (i + 1) (upd H5 D (.dK (putK kvs k z))) else Pv (i + 1) H3) (hd : ∀ H, Pv xs.length H → Qd H) :
    ∃ W : Nat → Nat → Hp → Prop, (∃ m, W 0 m (upd H1 D (.dK []))) ∧ ∀ i m H, W i m H →
      ((Itl K a).stop i H ∧ Qd H) ∨ ((Itl K a).go i H ∧ ∃ Nx : Hp → Prop, (∀ H', Nx H' → ∃ m', m' < m ∧ W (i + 1) m' H') ∧ ∀ x H', (Itl K a).yld i H x H' → g x (wipe σ vs) H' fun σ2 H2 => wipe σ2 vs = wipe σ vs ∧ tt σ2 H2 fun b H3 =>
        if b = true then tk σ2 H3 fun y H4 => tv σ2 H4 fun z H5 => ∃ kvs k, y = kV k ∧ H5 D = some (.dK kvs) ∧ kvs.length < PySem.sizeLine ∧ Nx (upd H5 D (.dK (putK kvs k z))) else Nx H3) := by
  refine ⟨fun i m H => m = xs.length - i ∧ i ≤ xs.length ∧ Pv i H, ⟨xs.length, by simp, Nat.zero_le _, h0⟩, fun i m H ⟨em, hi, p⟩ => ?_⟩
  have q := hl i H hi p
  by_cases hlt : i < xs.length
  · refine .inr ⟨⟨xs, xs[i], q, by simp [hlt]⟩, Pv (i + 1), fun H' p' => ⟨xs.length - (i + 1), by omega, rfl, hlt, p'⟩, fun x H' ⟨eh, y⟩ => ?_⟩
    rw [eh]
    exact hs i x H (y xs q) p
  · have el : i = xs.length := by omega
    rw [el] at p
    exact .inl ⟨⟨xs, q, by omega⟩, hd H p⟩
theorem o_dcQ {od : @OD β d2} {tl : TE} {vs : List Nat} {kx : DI β → Prop} (hT : Tg g vs ∧ MoG g) (h : W C tl Γ (dSq (d := d)) fun xs => DictB C g tt tk tv d od kx (fun i => xs.l[i]?) xs.l.length (wipeC Γ vs)) : O C (tDc (iSeq C.K tl) g tt tk tv vs) Γ (oDeepDI od) kx := fun e F σ H s Q q => h e F σ H s _ fun v F1 H1 xs ⟨I, h0, hs, hd⟩ g1 ⟨a, us, e1, hq, r⟩ => by
  subst e1
  have fin : ∀ {D : Addr} {H : Hp}, H1 D = none → (∃ F' ps kv L, Wk ⟨F1, H1, []⟩ F' ((D, .dK ps) :: L) H ∧ OKReps od C F' ps kv L ∧ I us.length kv) → Q (.ref D) H := fun {D H} hD ⟨F', ps, kv, L, kw, ra, hi⟩ => by
    rw [r.len] at hi
    exact q _ F' H _ ⟨kv⟩ (hd kv hi) (by simpa using g1.trans kw) ⟨D, ps, L, rfl, rfl, ra⟩
  have kw0 : ∀ {D : Addr}, H1 D = none → Wk ⟨F1, H1, []⟩ F1 [(D, .dK [])] (upd H1 D (.dK [])) := fun hD => g1.base.own hD (fun _ z => by cases z)
  refine ⟨a, rfl, ?_⟩
  rcases hq with hq | hq
  · refine .inl ⟨⟨us, g1.fh.seq hq⟩, fun D hD => dc_list (K := C.K) (a := a) (xs := us) (fun i H => ∃ F' ps kv L, Wk ⟨F1, H1, []⟩ F' ((D, .dK ps) :: L) H ∧ OKReps od C F' ps kv L ∧ I i kv) ⟨F1, [], [], [], kw0 hD, rfl, h0⟩ (fun i H _ ⟨F', ps, kv, L, kw, _⟩ => (kw.ff.trans kw.fh).seq hq) (fun i w H hw p => ?_) fun H p => fin hD p⟩
    obtain ⟨x, hx, rx⟩ := r.getV hw
    exact dict_turn (s.grow g1) hT.1 (hs i x · hx) (fun F' sm => d.mono sm rx) p
  · refine .inr ⟨⟨us, (hq.mono g1.fh).sq⟩, fun D hD => dc_tup (K := C.K) (a := a) (xs := us) (fun i H => ∃ F' ps kv L, Wk ⟨F1, H1, []⟩ F' ((D, .dK ps) :: L) H ∧ OKReps od C F' ps kv L ∧ I i kv) ⟨F1, [], [], [], kw0 hD, rfl, h0⟩ (fun i H _ ⟨F', ps, kv, L, kw, _⟩ => (hq.mono (kw.ff.trans kw.fh)).sq) (fun i w H hw p => ?_) fun H p => fin hD p⟩
    obtain ⟨x, hx, rx⟩ := r.getV hw
    exact dict_turn (s.grow g1) hT.1 (hs i x · hx) (fun F' sm => d.mono sm rx) p

/-! ### lists that own lists -/
theorem atI_split {α : Type} {xs : List α} {i : Int} {x : α} (h : atI xs i = some x) : ∃ j, ixN xs.length i = some j ∧ xs[j]? = some x := by
  unfold atI at h
  cases q : ixN xs.length i with
  | none => rw [q] at h; cases h
  | some j => rw [q] at h; exact ⟨j, rfl, h⟩
/-- xs[i].append(y), the items owned -/
theorem z_appendIx {pin : Option V} {i : Nat} {xs : List (List α)} (hi : Γ[i]? = some (.own (dList (d := dList (d := d))) (oDeep (oList (d := d))) pin xs)) (h : R C ta Γ dInt fun n => ∃ j x, ixN xs.length n = some j ∧ xs[j]? = some x ∧ W C te Γ d fun y => x.length < PySem.sizeLine ∧ k.nx (Γ.set i (.own (dList (d := dList (d := d))) (oDeep (oList (d := d))) pin (xs.set j (x ++ [y]))))) :
    Z C (tDrop (tBM C.K "list" rAppend (tOp (rIxL C.K) (tVar i) ta) (tCons te tNil))) Γ k := fun e F σ H D hM s c => by
  obtain ⟨v0, e1, r0⟩ := s.own hi
  refine ⟨v0, e1, h e F σ H s _ fun v1 F1 H1 n ⟨j, x, hj, hx, hw⟩ g1 r1 => ?_⟩
  cases (show v1 = .int n from r1)
  have st1 := s.grow g1
  obtain ⟨v, Li, rest, e2, ⟨a, vs, L', rfl, rfl, r⟩, kw, f⟩ := st1.mut hi
  rw [e1] at e2
  cases (Option.some.inj e2)
  have ha : H1 a = some (.lst vs) := (kw.ow (a, .lst vs) (by simp)).2.1
  obtain ⟨w, M1, Mi, M2, e3, e4, ⟨b, us, rfl, rfl, ru⟩, f2⟩ := r.at hx
  have hb : H1 b = some (.lst us) := (kw.ow (b, .lst us) (by rw [e4]; simp)).2.1
  refine ⟨a, vs, n, .ref b, rfl, rfl, .inl (.inl ha), by unfold atI; rw [r.len, hj]; exact e3, .inl ⟨rfl, us, .inl (.inl hb)⟩, hw e F1 σ H1 st1 _ fun y F2 H2 yv ⟨hl, ky⟩ g2 ry => ?_⟩
  have hb2 : H2 b = some (.lst us) := g2.hh0 _ _ hb
  refine ⟨b, us, y, rfl, rfl, hb2, by rw [ru.len]; exact hl, ?_⟩
  obtain ⟨v', Li', rest', e9, ⟨a', vs', L2, h30, h31, r30⟩, k9, f9⟩ := (st1.grow g2).mut hi
  rw [e1] at e9
  cases (Option.some.inj e9)
  cases h30
  subst h31
  have ha0 : H2 a = some (.lst vs') := (k9.ow (a, .lst vs') (by simp)).2.1
  rw [g2.hh0 _ _ ha] at ha0
  cases (Option.some.inj ha0)
  obtain ⟨w4, Q1, Qi, Q2, e10, e11, ⟨b4, us4, h40, h41, ru4⟩, f5⟩ := r30.at hx
  rw [e3] at e10
  cases (Option.some.inj e10)
  cases h40
  subst h41 e11
  have hb4 : H2 b = some (.lst us4) := (k9.ow (b, .lst us4) (by simp)).2.1
  rw [hb2] at hb4
  cases (Option.some.inj hb4)
  have q5 := f5 (x ++ [yv]) [(b, .lst (us ++ [y]))] ⟨b, _, rfl, rfl, ru4.append (Reps.one ry)⟩
  have k1 : Wk e F2 (((a, .lst vs) :: Q1) ++ [(b, .lst us)] ++ (Q2 ++ rest')) H2 := by simpa [List.append_assoc] using k9
  have k2 := k1.front.put (o' := .lst (us ++ [y])) (fun _ z => by cases z)
  have k3 : Wk e F2 (((a, .lst vs) :: Q1) ++ [(b, .lst (us ++ [y]))] ++ (Q2 ++ rest')) (upd H2 b (.lst (us ++ [y]))) := Wk.back (Li := [(b, .lst (us ++ [y]))]) k2
  exact c.nx F2 σ _ _ ky (f9 F2 _ ((a, .lst vs) :: (Q1 ++ [(b, .lst (us ++ [y]))] ++ Q2)) _ (Same.refl _) (by simpa [List.append_assoc] using k3) ⟨a, vs, _, rfl, rfl, q5⟩)
/-- xs.append(y), y new and owned -/
theorem z_appendO {od : @OD α d} {pin : Option V} {i : Nat} {xs : List α} (hi : Γ[i]? = some (.own (dList (d := d)) (oDeep od) pin xs)) (h : O C te Γ od fun y => xs.length < PySem.sizeLine ∧ k.nx (Γ.set i (.own (dList (d := d)) (oDeep od) pin (xs ++ [y])))) :
    Z C (tDrop (tBM C.K "list" rAppend (tVar i) (tCons te tNil))) Γ k := fun e F σ H D hM s c => by
  obtain ⟨v0, _, _, e1, ⟨a0, vs0, L0, rfl, rfl, _⟩, kw0, _⟩ := s.mut hi
  have ha0 : H a0 = some (.lst vs0) := (kw0.ow (a0, .lst vs0) (by simp)).2.1
  refine ⟨.ref a0, e1, .inl ⟨rfl, vs0, .inl (.inl ha0)⟩, h e F σ H s _ fun w F' H' L' y ⟨hl, ky⟩ g rw' => ?_⟩
  obtain ⟨L, k0, sl0⟩ := id s
  obtain ⟨o0, P1, Pi, P2, f1, f2, ⟨u0, rfl, hp0, a, vs, Lx, rfl, rfl, r⟩, f4⟩ := sl0.get hi
  rw [e1] at f1
  cases (Option.some.inj f1)
  subst f2
  have k1 := k0.trans g
  have ha : H' a0 = some (.lst vs) := (k1.ow (a0, .lst vs) (by simp)).2.1
  refine ⟨a0, vs, w, rfl, rfl, ha, by rw [r.len]; exact hl, ?_⟩
  have q6 := f4 F' (some (.ref a0)) (.own (dList (d := d)) (oDeep od) pin (xs ++ [y])) ((a0, .lst (vs ++ [w])) :: (Lx ++ L')) g.ff ⟨.ref a0, rfl, hp0, a0, _, _, rfl, rfl, (r.mono g.ff).append (OReps.one rw')⟩
  have z : σ.set i (some (.ref a0)) = σ := by
    apply List.ext_getElem?
    intro j
    by_cases hj : i = j
    · subst hj
      obtain ⟨hlt, hv⟩ := List.getElem?_eq_some_iff.mp e1
      rw [List.getElem?_set_self hlt, e1]
    · rw [List.getElem?_set_ne hj]
  rw [z] at q6
  refine c.nx F' σ _ _ ky ⟨_, ?_, q6⟩
  have k2 : Wk e F' ((L' ++ P1) ++ [(a0, .lst vs)] ++ (Lx ++ P2)) H' := by simpa [List.append_assoc] using k1
  have k3 := k2.front.put (o' := .lst (vs ++ [w])) (fun _ z => by cases z)
  refine k3.sub (fun p hp => ?_) ?_
  · simp only [List.mem_cons, List.mem_append] at hp ⊢
    rcases hp with (h | h | h | h) | h <;> simp [h]
  · have n3 := k3.nd
    refine (List.Perm.nodup_iff (List.Perm.map _ ?_)).mp n3
    simp only [List.append_assoc, List.singleton_append, List.cons_append]
    refine List.Perm.trans ?_ List.perm_middle.symm
    refine List.Perm.cons _ ?_
    refine List.Perm.trans (List.perm_append_comm (l₁ := L')) ?_
    simp only [List.append_assoc]
    refine List.Perm.append_left _ (List.Perm.append_left _ ?_)
    exact List.perm_append_comm
theorem o_nilDeep {od : @OD α d} {kx : List α → Prop} (hk : kx []) : O C (tLst tNil) Γ (oDeep od) kx := fun e F σ H s Q q => ⟨Nat.zero_le _, fun p hp =>
  q _ F _ _ [] hk (s.base.own hp (fun _ z => by cases z)) ⟨p, [], [], rfl, rfl, rfl⟩⟩
end
end G

/-! G7: what is owned, read as if it were frozen; comprehensions of owned items; the script. -/
namespace G
open PySem L2
section
variable {C : GCtx} {Γ : List Cell} {te ta tb tc tk tv : TE} {t u tt : TT} {α β γ δ : Type} {d1 : Dat α} {d : Dat α} {d2 : Dat β} {k : Ks} {t1 t2 ts : TS} {g : TG}
theorem State.frzM {e : En} {F : Hp} {σ : St} {H : Hp} {od : @OD α d} {x : α} {i : Nat} {pin : Option V} (s : State C e F σ H Γ) (h : Γ[i]? = some (.own d od pin x)) : ∃ e' F', Same F F' ∧ State C e' F' σ H (Γ.set i (.val d x)) := by
  obtain ⟨L, k, sl⟩ := s
  obtain ⟨o, L1, Li, L2, e1, e2, ⟨v, rfl, hp, r⟩, f⟩ := sl.get h
  subst e2
  have kf := k.front
  have kb : Wk ⟨F, fun _ => none, []⟩ F (Li ++ (L1 ++ L2)) H := ⟨Same.refl _, fun _ _ _ z => (nomatch z), fun _ z => absurd rfl z, kf.fh, fun _ z _ => absurd rfl z, kf.tp, fun p hp => ⟨(kf.ow p hp).1, (kf.ow p hp).2.1, .inl rfl⟩, kf.nd⟩
  have ff : ∀ p ∈ Li, F p.1 = none := fun p hp => (kf.ow p (List.mem_append_left _ hp)).1
  have nd : (Li.map Prod.fst).Nodup := by
    have := kf.nd
    rw [List.map_append] at this
    exact (List.nodup_append.mp this).1
  have sm := same_plus ff nd
  have q := f (plus F Li) (some v) (.val d x) [] sm ⟨rfl, v, rfl, od.view r sm (plus_get ff nd)⟩
  have z : σ.set i (some v) = σ := by
    apply List.ext_getElem?
    intro j
    by_cases hj : i = j
    · subst hj
      obtain ⟨hlt, hv⟩ := List.getElem?_eq_some_iff.mp e1
      rw [List.getElem?_set_self hlt, e1]
    · rw [List.getElem?_set_ne hj]
  rw [z, List.append_nil] at q
  exact ⟨_, plus F Li, sm, L1 ++ L2, kb.freeze fun p _ z => (nomatch z), q⟩
theorem o_borrow {od0 : @OD α d} {x : α} {pin : Option V} {od : @OD β d2} [m : @OIm β d2 od] {kx : β → Prop} (i : Nat) (hi : Γ[i]? = some (.own d od0 pin x)) (h : O C te (Γ.set i (.val d x)) od kx) : O C te Γ od kx := fun e F σ H s Q q => by
  obtain ⟨e', F1, sm, s1⟩ := s.frzM hi
  refine h e' F1 σ H s1 Q fun v F' H' L' y ky g r => ?_
  have g3 := fresh_gr s.base g
  exact q v _ H' L' y ky g3 (m.oimm (fun a xs h => g3.tp a xs (g.fh _ _ h)) r)
theorem w_borrow {od0 : @OD α d} {x : α} {pin : Option V} [m : @Imm β d2] {kx : β → Prop} (i : Nat) (hi : Γ[i]? = some (.own d od0 pin x)) (h : W C te (Γ.set i (.val d x)) d2 kx) : W C te Γ d2 kx := fun e F σ H s Q q => by
  obtain ⟨e', F1, sm, s1⟩ := s.frzM hi
  refine h e' F1 σ H s1 Q fun v F' H' y ky g r => ?_
  have g3 := fresh_gr s.base g
  exact q v _ H' y ky g3 (m.imm (fun a xs h => g3.tp a xs (g.fh _ _ h)) r)
/-- comprehensions whose items are new and owned -/
def CompO (C : GCtx) (g : TG) (tt : TT) (te : TE) {α β : Type} (d : Dat α) {d2 : Dat β} (od : OD β) (kx : List β → Prop) (get : Nat → Option α) (n : Nat) (Γ : List Cell) : Prop :=
  ∃ I : Nat → List β → Prop, I 0 [] ∧ (∀ i x ys, get i = some x → I i ys → A C g Γ d x fun Γ2 => T C tt Γ2 fun b => (b = true → O C te Γ2 od fun y => ys.length < PySem.sizeLine ∧ I (i + 1) (ys ++ [y])) ∧ (b = false → I (i + 1) ys)) ∧ ∀ ys, I n ys → kx ys
theorem compO_turn {od : @OD β d2} {e : En} {F1 : Hp} {σ : St} {H1 : Hp} {vs : List Nat} {D : Addr} {x : α} {v : V} {I I' : List β → Prop} (s1 : State C e F1 σ H1 Γ) (hT : Tg g vs)
    (hs : ∀ ys, I ys → A C g (wipeC Γ vs) d x fun Γ2 => T C tt Γ2 fun b => (b = true → O C te Γ2 od fun y => ys.length < PySem.sizeLine ∧ I' (ys ++ [y])) ∧ (b = false → I' ys)) (rx : ∀ F', Same F1 F' → d.rep C F' v x) {H : Hp}
    (h : ∃ F' acc ys L, Wk ⟨F1, H1, []⟩ F' ((D, .lst acc) :: L) H ∧ OReps od C F' acc ys L ∧ I ys) :
    g v (wipe σ vs) H fun σ2 H2 => wipe σ2 vs = wipe σ vs ∧ tt σ2 H2 fun b H3 =>
      if b = true then te σ2 H3 fun y H4 => ∃ acc, H4 D = some (.lst acc) ∧ acc.length < PySem.sizeLine ∧ (∃ F' acc' ys L, Wk ⟨F1, H1, []⟩ F' ((D, .lst acc') :: L) (upd H4 D (.lst (acc ++ [y]))) ∧ OReps od C F' acc' ys L ∧ I' ys) else (∃ F' acc ys L, Wk ⟨F1, H1, []⟩ F' ((D, .lst acc) :: L) H3 ∧ OReps od C F' acc ys L ∧ I' ys) := by
  obtain ⟨F', acc, ys, L, kw, r, hi⟩ := h
  have st := (s1.growL kw).wipe vs
  have key := hs ys hi e F' _ H v st (rx F' kw.ff) (fun σ2 H2 => tt σ2 H2 fun b H3 =>
      if b = true then te σ2 H3 fun y H4 => ∃ acc, H4 D = some (.lst acc) ∧ acc.length < PySem.sizeLine ∧ (∃ F' acc' ys L, Wk ⟨F1, H1, []⟩ F' ((D, .lst acc') :: L) (upd H4 D (.lst (acc ++ [y]))) ∧ OReps od C F' acc' ys L ∧ I' ys) else (∃ F' acc ys L, Wk ⟨F1, H1, []⟩ F' ((D, .lst acc) :: L) H3 ∧ OReps od C F' acc ys L ∧ I' ys)) fun σ2 Γ2 h2 st2 => by
    refine h2 e F' σ2 H st2 _ fun b F3 H3 kb g3 => ?_
    have kw3 := kw.trans0 g3
    cases b with
    | false => exact ⟨F3, acc, ys, L, kw3, r.mono g3.ff, kb.2 rfl⟩
    | true =>
      refine kb.1 rfl e F3 σ2 H3 (st2.grow g3) _ fun y F4 H4 Ly yv ⟨hl, ky⟩ g4 ry => ?_
      have kw4 := kw3.trans g4
      have r4 := r.mono (g3.ff.trans g4.ff)
      have hD : H4 D = some (.lst acc) := (kw4.ow (D, .lst acc) (by simp)).2.1
      refine ⟨acc, hD, by rw [r.len]; exact hl, F4, acc ++ [y], ys ++ [yv], L ++ Ly, ?_, r4.append (OReps.one ry), ky⟩
      have k6 : Wk ⟨F1, H1, []⟩ F4 (Ly ++ [(D, .lst acc)] ++ L) H4 := by simpa [List.append_assoc] using kw4
      have k7 : Wk ⟨F1, H1, []⟩ F4 ((D, .lst (acc ++ [y])) :: (Ly ++ L)) _ := k6.front.put (o' := .lst (acc ++ [y])) (fun _ z => by cases z)
      refine k7.sub (fun p hp => ?_) ?_
      · simp only [List.mem_cons, List.mem_append] at hp ⊢
        rcases hp with h | h | h <;> simp [h]
      · exact (List.Perm.nodup_iff (List.Perm.map _ (List.Perm.cons _ List.perm_append_comm))).mp k7.nd
  have key2 := hT v _ H _ key
  rw [wipe_wipe] at key2
  exact key2
theorem o_lcO {od : @OD β d2} {tl : TE} {vs : List Nat} {kx : List β → Prop} (hT : Tg g vs ∧ MoG g) (h : W C tl Γ (dList (d := d)) fun xs => CompO C g tt te d od kx (fun i => xs[i]?) xs.length (wipeC Γ vs)) : O C (tLc (iList C.K tl) g tt te vs) Γ (oDeep od) kx := fun e F σ H s Q q => h e F σ H s _ fun v F1 H1 xs ⟨I, h0, hs, hd⟩ g1 ⟨a, us, e1, hq, r⟩ => by
  subst e1
  refine ⟨a, rfl, ⟨us, g1.fh.seq hq⟩, fun D hD => ?_⟩
  have kw0 : Wk ⟨F1, H1, []⟩ F1 [(D, .lst [])] (upd H1 D (.lst [])) := g1.base.own hD (fun _ z => by cases z)
  refine lc_list (K := C.K) (a := a) (xs := us) (fun i H => ∃ F' acc ys L, Wk ⟨F1, H1, []⟩ F' ((D, .lst acc) :: L) H ∧ OReps od C F' acc ys L ∧ I i ys) ⟨F1, [], [], [], kw0, rfl, h0⟩ (fun i H _ ⟨F', acc, ys, L, kw, _⟩ => (kw.ff.trans kw.fh).seq hq) (fun i w H hw p => ?_) fun H ⟨F', acc, ys, L, kw, ra, hi⟩ => ?_
  · obtain ⟨x, hx, rx⟩ := r.getV hw
    exact compO_turn (s.grow g1) hT.1 (hs i x · hx) (fun F' sm => d.mono sm rx) p
  · rw [r.len] at hi
    exact q _ F' H _ ys (hd ys hi) (by simpa using g1.trans kw) ⟨D, acc, L, rfl, rfl, ra⟩
/-- len of a list just made -/
theorem w_lenO {k : Int → Prop} {od : @OD (List α) (dList (d := d))} (h : O C ta Γ od fun xs => k (xs.length : Int)) : W C (tCB (fun xs H Q => ∃ p ys, xs = [.ref p] ∧ (SqL C.K H p ys ∨ SqT C.K H p ys) ∧ Q (.int ys.length) H) (tCons ta tNil)) Γ dInt k := w_len (r_of_w (w_of_o h))
/-- the script, as the law takes it -/
theorem Fn.script {K : PySem.W.Frag} {P : Program} {w : World} {H : Hp} {a : Addr} {ns : List Int} (hS : SqL K H a (ns.map V.int)) : Fn ⟨P, w, K⟩ [cv ns] (fun c => c = cv true) [.ref a] H (fun v _ => v = .bl true) :=
  ⟨H, ⟨Same.refl _, fun _ _ _ h => h, fun _ h => h, Same.refl _, fun _ _ h => h, fun _ _ h => h, fun _ h => (nomatch h), List.nodup_nil⟩, Slots.cons (L := []) ⟨rfl, .ref a, rfl, a, _, rfl, hS, Reps.ofInts ns⟩ .nil, fun v F' H' c L e _ ok => by
    subst e
    obtain ⟨_, v', e', r⟩ := ok
    cases (Option.some.inj e')
    exact r⟩
end
end G

/-! G8: stores into dicts, slices, items that change their list, lists picked out of owned lists. -/
namespace G
open PySem L2
section
variable {C : GCtx} {Γ : List Cell} {te ta tb tc tk tv : TE} {t u tt : TT} {α β γ δ : Type} {d1 : Dat α} {d : Dat α} {d2 : Dat β} {k : Ks} {t1 t2 ts : TS} {g : TG}
/-! d[k] = v -/
theorem KReps.map_put {F : Hp} {v : V} {x : α} {n : Int} (hv : d.rep C F v x) : ∀ {ps : List (Key × V)} {xs : List (Int × α)}, KReps d C F ps xs → KReps d C F (ps.map fun kv => if kv.1 = Sum.inl n then (kv.1, v) else kv) (xs.map fun p => if p.1 = n then (n, x) else p)
  | [], [], _ => trivial
  | p :: ps, y :: ys, h => by
    rw [List.map_cons, List.map_cons]
    by_cases hn : y.1 = n
    · rw [if_pos hn, if_pos (by rw [h.1, hn])]
      exact ⟨by show p.1 = Sum.inl n; rw [h.1, hn], hv, KReps.map_put hv h.2.2⟩
    · rw [if_neg hn, if_neg (by rw [h.1]; exact fun z => hn (Sum.inl.inj z))]
      exact ⟨h.1, h.2.1, KReps.map_put hv h.2.2⟩
  | [], _ :: _, h => h.elim
  | _ :: _, [], h => h.elim
theorem KReps.snoc {F : Hp} {v : V} {x : α} {n : Int} (hv : d.rep C F v x) : ∀ {ps : List (Key × V)} {xs : List (Int × α)}, KReps d C F ps xs → KReps d C F (ps ++ [(Sum.inl n, v)]) (xs ++ [(n, x)])
  | [], [], _ => ⟨rfl, hv, trivial⟩
  | _ :: _, _ :: _, h => ⟨h.1, h.2.1, KReps.snoc hv h.2.2⟩
  | [], _ :: _, h => h.elim
  | _ :: _, [], h => h.elim
theorem KReps.put {F : Hp} {ps : List (Key × V)} {xs : List (Int × α)} {v : V} {x : α} {n : Int} (h : KReps d C F ps xs) (hv : d.rep C F v x) : KReps d C F (putK ps (Sum.inl n) v) (putI xs n x) := by
  unfold putK putI
  have l := h.look n
  rw [valV_any]
  cases q : xs.lookup n with
  | none =>
    rw [l.2 q, if_neg (fun z => (nomatch z)), if_neg (fun z => (nomatch z))]
    exact h.snoc hv
  | some y =>
    obtain ⟨w, hw, _⟩ := l.1 y q
    rw [hw]
    exact h.map_put hv
theorem lookup_map_put {β : Type} (n j : Int) (x : β) : ∀ kv : List (Int × β), (kv.map fun p => if p.1 = n then (n, x) else p).lookup j = if j = n then (kv.lookup n).map (fun _ => x) else kv.lookup j
  | [] => by simp
  | p :: kv => by
    rw [List.map_cons, lookup_cons', lookup_map_put n j x kv, lookup_cons', lookup_cons']
    by_cases hn : p.1 = n
    · rw [if_pos hn]
      by_cases hj : j = n
      · rw [if_pos hj.symm, if_pos hj, if_pos hn]; rfl
      · rw [if_neg (fun z => hj z.symm), if_neg hj, if_neg hj, if_neg (fun z => hj (z.symm.trans hn))]
    · rw [if_neg hn]
      by_cases hj : j = n
      · rw [if_neg (fun z => hn (z.trans hj)), if_pos hj, if_pos hj, if_neg hn]
      · rw [if_neg hj, if_neg hj]
theorem lookup_putI {β : Type} (kv : List (Int × β)) (n j : Int) (x : β) : (putI kv n x).lookup j = if j = n then some x else kv.lookup j := by
  unfold putI
  cases q : kv.lookup n with
  | some y =>
    show (kv.map fun p => if p.1 = n then (n, x) else p).lookup j = _
    rw [lookup_map_put, q]; rfl
  | none =>
    rw [if_neg (fun z => (nomatch z))]
    have : ∀ kv : List (Int × β), kv.lookup n = none → (kv ++ [(n, x)]).lookup j = if j = n then some x else kv.lookup j := by
      intro kv
      induction kv with
      | nil =>
        intro _
        rw [List.nil_append, lookup_cons']
        by_cases hj : j = n
        · rw [if_pos hj.symm, if_pos hj]
        · rw [if_neg (fun z => hj z.symm), if_neg hj]
      | cons p kv ih =>
        intro hq
        rw [lookup_cons'] at hq
        by_cases hp : p.1 = n
        · rw [if_pos hp] at hq; cases hq
        · rw [if_neg hp] at hq
          rw [List.cons_append, lookup_cons', ih hq, lookup_cons']
          by_cases hj : j = n
          · rw [if_neg (fun z => hp (z.trans hj)), if_pos hj, if_pos hj]
          · rw [if_neg hj, if_neg hj]
    exact this kv q
theorem putI_len {β : Type} (kv : List (Int × β)) (n : Int) (x : β) : (putI kv n x).length ≤ kv.length + 1 := by
  unfold putI
  split <;> simp
theorem o_dict0 {kx : DI α → Prop} (h : kx ⟨[]⟩) : O C tDNewK Γ (oDI (d := d)) kx := fun e F σ H s Q q => fun p hp =>
  q _ F _ _ _ h (s.base.own hp (fun _ z => by cases z)) ⟨p, [], rfl, rfl, trivial⟩
theorem z_dput {pin : Option V} {i : Nat} {x : DI α} (hi : Γ[i]? = some (.own (dDI (d := d)) (oDI (d := d)) pin x)) (h : W C tv Γ d fun y => R C tk Γ dInt fun n => x.kv.length < PySem.sizeLine ∧ k.nx (Γ.set i (.own (dDI (d := d)) (oDI (d := d)) pin ⟨putI x.kv n y⟩))) :
    Z C (sDPut (tVar i) tk tv) Γ k := fun e F σ H D hM s c => h e F σ H s _ fun w F1 H1 y hy g1 r1 => by
  obtain ⟨v0, e1, r0⟩ := (s.grow g1).own hi
  refine ⟨v0, e1, hy e F1 σ H1 (s.grow g1) _ fun v2 F2 H2 n ⟨hl, kn⟩ g2 r2 => ?_⟩
  cases (show v2 = .int n from r2)
  obtain ⟨v, Li, rest, e2, ⟨a, ps, rfl, rfl, r⟩, kw, f⟩ := ((s.grow g1).grow g2).mut hi
  rw [e1] at e2
  cases (Option.some.inj e2)
  have ha : H2 a = some (.dK ps) := (kw.ow (a, .dK ps) (by simp)).2.1
  refine ⟨a, _, rfl, DPut.k (k := Sum.inl n) ha (by rw [r.len]; exact hl), ?_⟩
  exact c.nx F2 σ _ _ kn (f F2 _ [(a, .dK (putK ps (Sum.inl n) w))] ⟨putI x.kv n y⟩ (Same.refl F2) (kw.put (fun _ z => by cases z)) ⟨a, _, rfl, rfl, r.put (d.mono g2.ff r1)⟩)

/-! slices -/
def cutL {α : Type} (xs : List α) (lo hi : Option Int) : List α := (xs.drop (HT.sIx xs.length 0 lo)).take (HT.sIx xs.length xs.length hi - HT.sIx xs.length 0 lo)
theorem cut_rep {F : Hp} {vs : List V} {xs : List α} (r : Reps d C F vs xs) (lo hi : Option Int) : Reps d C F (cutV vs lo hi) (cutL xs lo hi) := by
  unfold cutV cutL
  rw [r.len]
  exact (r.drop _).take _
/-- a part of a slice -/
def TOk (C : GCtx) (to : TO) (Γ : List Cell) (k : Option Int → Prop) : Prop := ∀ (e : En) (F : Hp) (σ : St) (H : Hp), State C e F σ H Γ → ∀ Q : Option Int → Hp → Prop, (∀ o F' H', k o → Gr F H F' H' → Q o H') → to σ H Q
theorem to_none {kx : Option Int → Prop} (h : kx none) : TOk C tNoPart Γ kx := fun e F σ H s Q q => q none F H h s.base
theorem to_some {kx : Option Int → Prop} (h : R C te Γ dInt fun n => kx (some n)) : TOk C (tPart te) Γ kx := fun e F σ H s Q q => h e F σ H s _ fun v F' H' n kn g r => ⟨n, r, q (some n) F' H' kn g⟩
theorem o_sl {tl th : TO} {kx : List α → Prop} (h : W C te Γ (dList (d := d)) fun xs => TOk C tl Γ fun lo => TOk C th Γ fun hi => kx (cutL xs lo hi)) : O C (tSl (rSlL C.K) te tl th) Γ (oList (d := d)) kx := fun e F σ H s Q q => h e F σ H s _ fun v F1 H1 xs h1 g1 ⟨a, vs, e1, hq, r⟩ => by
  subst e1
  refine h1 e F1 σ H1 (s.grow g1) _ fun lo F2 H2 h2 g2 => h2 e F2 σ H2 ((s.grow g1).grow g2) _ fun hi F3 H3 h3 g3 => ⟨a, vs, rfl, ?_, fun p hp => ?_⟩
  · exact (g1.fh.trans (g2.hh0.trans g3.hh0)).seq hq
  · obtain ⟨h4, h5⟩ := o_new (L := []) g3.base hp (cut_rep (r.mono (g2.ff.trans g3.ff)) lo hi)
    have g4 := ((g1.trans0 g2).trans0 g3).trans h4
    exact q _ F3 _ _ _ h3 (by simpa using g4) h5

/-! xs.append(ys.pop(i)) -/
theorem Reps.erase {F : Hp} : ∀ {vs : List V} {xs : List α} (i : Nat), Reps d C F vs xs → Reps d C F (vs.eraseIdx i) (xs.eraseIdx i)
  | [], [], _, _ => by simp [Reps]
  | _ :: _, _ :: _, 0, h => h.2
  | _ :: _, _ :: _, i + 1, h => ⟨h.1, Reps.erase i h.2⟩
  | [], _ :: _, _, h => h.elim
  | _ :: _, [], _, h => h.elim
theorem z_appendPop {p1 p2 : Option V} {i j : Nat} {xs ys : List α} (hij : i ≠ j) (hi : Γ[i]? = some (.own (dList (d := d)) (oList (d := d)) p1 xs)) (hj : Γ[j]? = some (.own (dList (d := d)) (oList (d := d)) p2 ys))
    (h : R C ta Γ dInt fun n => ∃ m y, (0 ≤ n ∧ n < 2 ^ 63 ∧ seqIndex? n ys.length = some m ∧ ys[m]? = some y) ∧ xs.length < PySem.sizeLine ∧ k.nx ((Γ.set j (.own (dList (d := d)) (oList (d := d)) p2 (ys.eraseIdx m))).set i (.own (dList (d := d)) (oList (d := d)) p1 (xs ++ [y])))) :
    Z C (tDrop (tBM C.K "list" rAppend (tVar i) (tCons (tBM C.K "list" rPopAt (tVar j) (tCons ta tNil)) tNil))) Γ k := fun e F σ H D hM s c => by
  obtain ⟨v0, _, _, e1, ⟨a0, vs0, rfl, rfl, _⟩, kw0, _⟩ := s.mut hi
  have ha0 : H a0 = some (.lst vs0) := (kw0.ow (a0, .lst vs0) (by simp)).2.1
  obtain ⟨v1, _, _, e2, ⟨a1, vs1, rfl, rfl, _⟩, kw1, _⟩ := s.mut hj
  have ha1 : H a1 = some (.lst vs1) := (kw1.ow (a1, .lst vs1) (by simp)).2.1
  refine ⟨.ref a0, e1, .inl ⟨rfl, vs0, .inl (.inl ha0)⟩, .ref a1, e2, .inl ⟨rfl, vs1, .inl (.inl ha1)⟩, h e F σ H s _ fun v F1 H1 n ⟨m, y, ⟨h0, h63, hm, hy⟩, hl, kn⟩ g r => ?_⟩
  cases (show v = .int n from r)
  obtain ⟨w1, L1, rest1, e3, ⟨b1, us1, rfl, rfl, r1⟩, kv1, f1⟩ := (s.grow g).mut hj
  rw [e2] at e3
  cases (Option.some.inj e3)
  have hb1 : H1 a1 = some (.lst us1) := (kv1.ow (a1, .lst us1) (by simp)).2.1
  obtain ⟨wv, hwv, rwv⟩ := r1.get hy
  refine ⟨a1, us1, n, m, wv, rfl, rfl, hb1, by omega, h63, by rw [r1.len]; exact hm, hwv, ?_⟩
  have s2 := f1 F1 _ [(a1, .lst (us1.eraseIdx m))] (ys.eraseIdx m) (Same.refl F1) (kv1.put (fun _ z => by cases z)) ⟨a1, _, rfl, rfl, r1.erase m⟩
  have hi2 : (Γ.set j (.own (dList (d := d)) (oList (d := d)) p2 (ys.eraseIdx m)))[i]? = some (.own (dList (d := d)) (oList (d := d)) p1 xs) := by
    rw [List.getElem?_set_ne (fun z => hij z.symm)]; exact hi
  obtain ⟨w0, L0, rest0, e4, ⟨b0, us0, rfl, rfl, r0⟩, kv0, f0⟩ := s2.mut hi2
  rw [e1] at e4
  cases (Option.some.inj e4)
  have hb0 := (kv0.ow (a0, .lst us0) (by simp)).2.1
  refine ⟨a0, us0, wv, rfl, rfl, hb0, by rw [r0.len]; exact hl, ?_⟩
  exact c.nx F1 σ _ _ kn (f0 F1 _ [(a0, .lst (us0 ++ [wv]))] (xs ++ [y]) (Same.refl F1) (kv0.put (fun _ z => by cases z)) ⟨a0, _, rfl, rfl, r0.append (Reps.one rwv)⟩)

/-! parts of what is owned -/
theorem Wk.sublist {e : En} {F : Hp} {L L' : LO} {H : Hp} (a : Wk e F L H) (h : L'.Sublist L) : Wk e F L' H :=
  a.sub (fun p hp => h.subset hp) ((h.map Prod.fst).nodup a.nd)
theorem Wk.blank {e : En} {F : Hp} {L : LO} {H : Hp} (a : Wk e F L H) : Wk ⟨F, fun _ => none, []⟩ F L H :=
  ⟨Same.refl _, fun _ _ _ z => (nomatch z), fun _ z => absurd rfl z, a.fh, fun _ z _ => absurd rfl z, a.tp, fun p hp => ⟨(a.ow p hp).1, (a.ow p hp).2.1, .inl rfl⟩, a.nd⟩
theorem Slots.wipe {F : Hp} {σ : St} {L : LO} (h : Slots C F σ Γ L) : ∀ vs : List Nat, ∃ L', L'.Sublist L ∧ Slots C F (wipe σ vs) (wipeC Γ vs) L'
  | [] => ⟨L, List.Sublist.refl _, h⟩
  | v :: vs => by
    obtain ⟨L1, h1, h2⟩ := Slots.wipe h vs
    unfold L2.wipe wipeC
    cases q : (wipeC Γ vs)[v]? with
    | some c =>
      obtain ⟨o, M1, Mi, M2, e1, e2, _, f⟩ := h2.get q
      refine ⟨M1 ++ M2, ?_, by simpa using f F none .no [] (Same.refl F) rfl⟩
      refine List.Sublist.trans ?_ h1
      rw [e2, List.append_assoc]
      exact List.Sublist.append_left (List.sublist_append_right _ _) _
    | none =>
      have l1 : (wipeC Γ vs).length ≤ v := List.getElem?_eq_none_iff.mp q
      have l2 : (L2.wipe σ vs).length ≤ v := by rw [h2.len]; exact l1
      rw [List.set_eq_of_length_le l1, List.set_eq_of_length_le l2]
      exact ⟨L1, h1, h2⟩
/-! [x for x in OWNED if t]: the owned items that are picked -/
theorem o_lcPick {od : @OD α d} {tl : TE} {vs : List Nat} {j : Nat} {c0 : Cell} {kx : List α → Prop} (hj : j ∈ vs) (hc : (wipeC Γ vs)[j]? = some c0) (p : α → Bool)
    (h : O C tl Γ (oDeep od) fun xs => xs.length ≤ PySem.sizeLine ∧ (∀ x ∈ xs, T C tt ((wipeC Γ vs).set j (.val d x)) (· = p x)) ∧ kx (xs.filter p)) : O C (tLc (iList C.K tl) (gName j) tt (tVar j) vs) Γ (oDeep od) kx := fun e F σ H s Q q => h e F σ H s _ fun v F1 H1 L1 xs ⟨hsz, ht, hk⟩ g1 ⟨a, us, L2, e1, e2, r⟩ => by
  subst e1 e2
  have s1 := s.growL g1
  have ha : H1 a = some (.lst us) := (g1.ow (a, .lst us) (by simp)).2.1
  refine ⟨a, rfl, ⟨us, .inl (.inl ha)⟩, fun D hD => ?_⟩
  have hDa : a ≠ D := ne_of_none ha hD
  have kw0 : Wk ⟨F, H, []⟩ F1 ((D, .lst []) :: ((a, .lst us) :: L2)) (upd H1 D (.lst [])) := g1.own hD (fun _ z => by cases z)
  refine lc_list (K := C.K) (a := a) (xs := us) (fun i H' => ∃ F' acc La Lb, Wk ⟨F, H, []⟩ F' ((D, .lst acc) :: (a, .lst us) :: (La ++ Lb)) H' ∧ OReps od C F' acc ((xs.take i).filter p) La ∧ OReps od C F' (us.drop i) (xs.drop i) Lb ∧ Same F1 F') ⟨F1, [], [], L2, kw0, rfl, r, Same.refl _⟩ (fun i H' _ ⟨F', acc, La, Lb, kw, _⟩ => .inl (.inl (kw.ow (a, .lst us) (by simp)).2.1)) (fun i w H' hw ⟨F', acc, La, Lb, kw, ra, rb, sm⟩ => ?_) fun H' ⟨F', acc, La, Lb, kw, ra, rb, sm⟩ => ?_
  · -- one turn
    have hlt : i < us.length := (List.getElem?_eq_some_iff.mp hw).1
    have hlx : i < xs.length := by rw [← r.len]; exact hlt
    have hx : xs[i]? = some xs[i] := by simp [hlx]
    generalize xs[i] = x at hx
    have hxm : x ∈ xs := List.mem_of_getElem? hx
    have du : us.drop i = w :: us.drop (i + 1) := by rw [← List.getElem_cons_drop hlt]; congr 1; exact (List.getElem?_eq_some_iff.mp hw).2
    have dx : xs.drop i = x :: xs.drop (i + 1) := by rw [← List.getElem_cons_drop hlx]; congr 1; exact (List.getElem?_eq_some_iff.mp hx).2
    rw [du, dx] at rb
    obtain ⟨Lx, Lb', eL, rx, rb'⟩ := rb
    subst eL
    -- the item, as if it were frozen
    obtain ⟨L0, k0, sl0⟩ := id s
    have kall := k0.trans kw
    obtain ⟨Lw, hLw, slw⟩ := (sl0.mono kw.ff).wipe vs
    obtain ⟨o1, M1, Mi, M2, f1, f2, f3, f4⟩ := slw.get hc
    have kx1 : Wk ⟨F', fun _ => none, []⟩ F' (Lx ++ (M1 ++ M2)) H' := by
      refine kall.blank.sublist ?_
      refine List.Sublist.append ?_ (List.Sublist.trans ?_ hLw)
      · refine .cons _ (.cons _ ?_)
        exact List.Sublist.trans (List.sublist_append_left _ _) (List.sublist_append_right _ _)
      · rw [f2, List.append_assoc]
        exact List.Sublist.append_left (List.sublist_append_right _ _) _
    have fx : ∀ q ∈ Lx, F' q.1 = none := fun q hq => (kx1.ow q (List.mem_append_left _ hq)).1
    have nx : (Lx.map Prod.fst).Nodup := by
      have n := kx1.nd
      rw [List.map_append] at n
      exact (List.nodup_append.mp n).1
    have kf := kx1.freeze fun _ _ z => (nomatch z)
    have smx := same_plus fx nx
    have repx : d.rep C (plus F' Lx) w x := od.view rx smx (plus_get fx nx)
    have st2 : State C ⟨F', fun _ => none, []⟩ (plus F' Lx) ((wipe σ vs).set j (some w)) H' ((wipeC Γ vs).set j (.val d x)) :=
      ⟨M1 ++ M2, kf, by simpa using f4 (plus F' Lx) (some w) (.val d x) [] smx ⟨rfl, w, rfl, repx⟩⟩
    have hwj : ((wipe σ vs).set j (some w))[j]? = some (some w) := by
      rw [List.getElem?_set_self]
      rw [slw.len]
      exact (List.getElem?_eq_some_iff.mp hc).1
    have tk : ((xs.take (i + 1)).filter p) = (xs.take i).filter p ++ (if p x then [x] else []) := getElem?_filterTake p xs hx
    refine ⟨by rw [wipe_at hj, wipe_wipe], ht x hxm _ _ _ _ st2 _ fun b F2 H2 hb g2 => ?_⟩
    subst hb
    have g3 := fresh_gr kw.base g2
    have kw3 := kw.trans0 g3
    have ra3 := ra.mono g3.ff
    have rb3 := rb'.mono g3.ff
    cases hp : p x with
    | true =>
      rw [hp, if_pos rfl] at tk
      refine ⟨w, hwj, acc, (kw3.ow (D, .lst acc) (by simp)).2.1, ?_, fresh F' H' F2, acc ++ [w], La ++ Lx, Lb', ?_, ?_, rb3, sm.trans g3.ff⟩
      · rw [ra3.len]
        have h1 := List.length_filter_le p (xs.take i)
        rw [List.length_take] at h1
        omega
      · have k4 : Wk ⟨F, H, []⟩ (fresh F' H' F2) ((D, .lst (acc ++ [w])) :: (a, .lst us) :: (La ++ (Lx ++ Lb'))) _ := kw3.put (o' := .lst (acc ++ [w])) (fun _ z => by cases z)
        rw [List.append_assoc]
        exact k4
      · rw [tk]
        exact ra3.append (OReps.one (od.omono g3.ff rx))
    | false =>
      rw [hp, if_neg (fun z => (nomatch z)), List.append_nil] at tk
      refine ⟨fresh F' H' F2, acc, La, Lb', kw3.sublist ?_, by rw [tk]; exact ra3, rb3, sm.trans g3.ff⟩
      exact .cons₂ _ (.cons₂ _ (List.Sublist.append_left (List.sublist_append_right _ _) _))
  · rw [r.len, List.take_length] at ra
    exact q _ F' H' ((D, .lst acc) :: La) _ hk (kw.sublist (.cons₂ _ (.cons _ (List.sublist_append_left _ _)))) ⟨D, acc, La, rfl, rfl, ra⟩
/-! for x in OWNED: x.append(n) -/
theorem z_forApp {i j : Nat} {pin : Option V} {gs : List (List Int)} {n : Int} {c0 : Cell} (hij : i ≠ j) (hi : Γ[i]? = some (.own (dList (d := dList (d := dInt))) (oDeep (oList (d := dInt))) pin gs)) (hj : Γ[j]? = some c0)
    (hl : ∀ x ∈ gs, x.length < PySem.sizeLine) (h : k.nx ((Γ.set i (.own (dList (d := dList (d := dInt))) (oDeep (oList (d := dInt))) pin (gs.map (· ++ [n])))).set j .no)) :
    Z C (tFor (iList C.K (tVar i)) (gName j) (tDrop (tBM C.K "list" rAppend (tVar j) (tCons (tC (.int n)) tNil)))) Γ k := fun e F σ H D hM s c => by
  have s0 := s.hide hj
  have hi0 : (Γ.set j .no)[i]? = some (.own (dList (d := dList (d := dInt))) (oDeep (oList (d := dInt))) pin gs) := by rw [List.getElem?_set_ne (fun z => hij z.symm)]; exact hi
  obtain ⟨v, Li, rest, e1, ⟨a, vs, L2, rfl, rfl, r⟩, kw, f⟩ := s0.mut hi0
  have ha : H a = some (.lst vs) := (kw.ow (a, .lst vs) (by simp)).2.1
  refine ⟨.ref a, e1, a, rfl, ⟨vs, .inl (.inl ha)⟩, for_list (K := C.K) (a := a) (xs := vs) (fun m σ' H' => ∃ o L1 Lb, σ' = σ.set j o ∧ Wk e F ((a, .lst vs) :: (L1 ++ Lb) ++ rest) H' ∧ OReps (oList (d := dInt)) C F (vs.take m) ((gs.take m).map (· ++ [n])) L1 ∧ OReps (oList (d := dInt)) C F (vs.drop m) (gs.drop m) Lb) ?_ (fun m σ' H' _ ⟨o, L1, Lb, _, k1, _⟩ => .inl (.inl (k1.ow (a, .lst vs) (by simp)).2.1)) (fun m w σ' H' hw ⟨o, L1, Lb, es, k1, r1, rb⟩ => ?_) fun σ' H' ⟨o, L1, Lb, es, k1, r1, rb⟩ => ?_⟩
  · obtain ⟨oj, hoj⟩ : ∃ oj, σ[j]? = some oj := by
      have hjl : j < σ.length := by rw [s.len]; exact (List.getElem?_eq_some_iff.mp hj).1
      exact ⟨σ[j], by simp [hjl]⟩
    refine ⟨oj, [], L2, ?_, kw, rfl, r⟩
    apply List.ext_getElem?
    intro m
    by_cases hm : j = m
    · subst hm
      rw [List.getElem?_set_self (List.getElem?_eq_some_iff.mp hoj).1, hoj]
    · rw [List.getElem?_set_ne hm]
  · have hlt : m < vs.length := (List.getElem?_eq_some_iff.mp hw).1
    have hlx : m < gs.length := by rw [← r.len]; exact hlt
    have hx : gs[m]? = some gs[m] := by simp [hlx]
    generalize gs[m] = x at hx
    have dv : vs.drop m = w :: vs.drop (m + 1) := by rw [← List.getElem_cons_drop hlt]; congr 1; exact (List.getElem?_eq_some_iff.mp hw).2
    have dx : gs.drop m = x :: gs.drop (m + 1) := by rw [← List.getElem_cons_drop hlx]; congr 1; exact (List.getElem?_eq_some_iff.mp hx).2
    rw [dv, dx] at rb
    obtain ⟨Lx, Lb', eL, ⟨b, us, e2, e3, ru⟩, rb'⟩ := rb
    subst eL e2 e3
    have hb : H' b = some (.lst us) := (k1.ow (b, .lst us) (by simp)).2.1
    have hsj : (σ'.set j (some (.ref b)))[j]? = some (some (.ref b)) := by
      rw [List.getElem?_set_self]
      rw [es, List.length_set, s.len]
      exact (List.getElem?_eq_some_iff.mp hj).1
    refine ⟨.ref b, hsj, .inl ⟨rfl, us, .inl (.inl hb)⟩, b, us, .int n, rfl, rfl, hb, by rw [ru.len]; exact hl x (List.mem_of_getElem? hx), ?_⟩
    refine ⟨some (.ref b), L1 ++ [(b, .lst (us ++ [.int n]))], Lb', by rw [es]; exact List.set_set _, ?_, ?_, rb'⟩
    · have k2 : Wk e F (((a, .lst vs) :: L1) ++ [(b, .lst us)] ++ (Lb' ++ rest)) H' := by simpa [List.append_assoc] using k1
      have k3 := k2.front.put (o' := .lst (us ++ [.int n])) (fun _ z => by cases z)
      have k4 : Wk e F (((a, .lst vs) :: L1) ++ [(b, .lst (us ++ [.int n]))] ++ (Lb' ++ rest)) _ := Wk.back (Li := [(b, .lst (us ++ [.int n]))]) k3
      simpa [List.append_assoc] using k4
    · rw [List.take_add_one, hw, List.take_add_one, hx, List.map_append]
      exact r1.append (OReps.one ⟨b, _, rfl, rfl, ru.append (Reps.one rfl)⟩)
  · rw [List.take_length] at r1
    rw [r.len, List.take_length] at r1
    have k2 : Wk e F (((a, .lst vs) :: L1) ++ rest) H' := k1.sublist (by
      rw [List.cons_append, List.cons_append]
      exact .cons₂ _ (List.Sublist.append_right (List.sublist_append_left _ _) _))
    have st := f F H' ((a, .lst vs) :: L1) (gs.map (· ++ [n])) (Same.refl F) k2 ⟨a, vs, L1, rfl, rfl, r1⟩
    have st2 := st.forget (i := j) (o := o) (c := .no) (by
      rw [List.getElem?_set_ne hij, List.getElem?_set_self (List.getElem?_eq_some_iff.mp hj).1])
    rw [← es] at st2
    have eΓ : ((Γ.set j .no).set i (.own (dList (d := dList (d := dInt))) (oDeep (oList (d := dInt))) pin (gs.map (· ++ [n])))).set j .no = (Γ.set i (.own (dList (d := dList (d := dInt))) (oDeep (oList (d := dInt))) pin (gs.map (· ++ [n])))).set j .no := by
      rw [set_comm _ _ _ (fun z => hij z.symm), List.set_set]
    rw [eΓ] at st2
    exact c.nx F σ' H' _ h st2
end
end G

/-! GM: groups of a graph, in plain Lean. -/
namespace G
def Adj (pts : List Int) (ties : List (Int × Int)) (a b : Int) : Prop := a ∈ pts ∧ b ∈ pts ∧ ((a, b) ∈ ties ∨ (b, a) ∈ ties)
theorem Adj.symm {pts : List Int} {ties : List (Int × Int)} {a b : Int} (h : Adj pts ties a b) : Adj pts ties b a := ⟨h.2.1, h.1, h.2.2.symm⟩
inductive Reach (pts : List Int) (ties : List (Int × Int)) : Int → Int → Prop where
  | refl (x : Int) : Reach pts ties x x
  | tail {x y z : Int} (h : Reach pts ties x y) (a : Adj pts ties y z) : Reach pts ties x z
section
variable {pts : List Int} {ties : List (Int × Int)}
theorem Reach.trans {x y z : Int} (h : Reach pts ties x y) (g : Reach pts ties y z) : Reach pts ties x z := by
  induction g with
  | refl => exact h
  | tail _ a ih => exact .tail ih a
theorem Reach.symm {x y : Int} (h : Reach pts ties x y) : Reach pts ties y x := by
  induction h with
  | refl => exact .refl _
  | tail _ a ih => exact (Reach.tail (.refl _) a.symm).trans ih
theorem Reach.mem {x y : Int} (h : Reach pts ties x y) (hx : x ∈ pts) : y ∈ pts := by
  cases h with
  | refl => exact hx
  | tail _ a => exact a.2.1
noncomputable instance decReach {pts : List Int} {ties : List (Int × Int)} {x y : Int} : Decidable (Reach pts ties x y) := Classical.propDecidable _
noncomputable def compOf (pts : List Int) (ties : List (Int × Int)) (p : Int) : List Int := (isort pts).filter fun x => decide (Reach pts ties p x)
def IsMin (pts : List Int) (ties : List (Int × Int)) (p : Int) : Prop := ∀ q ∈ pts, Reach pts ties p q → p ≤ q
noncomputable instance decMin {pts : List Int} {ties : List (Int × Int)} {x : Int} : Decidable (IsMin pts ties x) := Classical.propDecidable _
noncomputable def firsts (pts : List Int) (ties : List (Int × Int)) (xs : List Int) : List Int := xs.filter fun p => decide (IsMin pts ties p)
/-- the groups, ascending, by their lowest points -/
noncomputable def groupsOf (pts : List Int) (ties : List (Int × Int)) : List (List Int) := (firsts pts ties (isort pts)).map (compOf pts ties)
theorem mem_isort {xs : List Int} {x : Int} : x ∈ isort xs ↔ x ∈ xs := (isort_perm xs).mem_iff
theorem isort_nodup {xs : List Int} (h : xs.Nodup) : (isort xs).Nodup := (isort_perm xs).nodup_iff.mpr h
theorem mem_comp {p x : Int} : x ∈ compOf pts ties p ↔ x ∈ pts ∧ Reach pts ties p x := by
  unfold compOf
  rw [List.mem_filter, mem_isort, decide_eq_true_eq]
theorem comp_lt (h : pts.Nodup) (p : Int) : (compOf pts ties p).Pairwise (· < ·) := by
  refine List.Pairwise.filter _ ?_
  have a := isort_pw pts
  have b := isort_nodup h
  exact List.Pairwise.imp₂ (fun x y h1 h2 => by omega) a (List.nodup_iff_pairwise_ne.mp b) |> fun z => z
/-- a list that holds just a group's points is the group, once sorted -/
theorem isort_comp (h : pts.Nodup) {p : Int} {g : List Int} (hn : g.Nodup) (hm : ∀ x, x ∈ g ↔ x ∈ pts ∧ Reach pts ties p x) : isort g = compOf pts ties p := by
  refine (isort_eq ?_ ((comp_lt h p).imp (fun h => by omega))).symm
  have hc : (compOf pts ties p).Nodup := (comp_lt h p).imp (fun h => by omega)
  exact (List.perm_ext_iff_of_nodup hc hn).mpr fun x => by rw [mem_comp, hm]

/-! near -/
theorem lookup_setI {β : Type} : ∀ (kv : List (Int × β)) (n k : Int) (v : β), (setI kv n v).lookup k = if k = n then (kv.lookup n).map (fun _ => v) else kv.lookup k
  | [], n, k, v => by unfold setI; split <;> rfl
  | p :: kv, n, k, v => by
    unfold setI
    by_cases hp : p.1 = n
    · rw [if_pos hp, lookup_cons', lookup_cons', lookup_cons', if_pos hp]
      by_cases hk : k = n
      · rw [if_pos hk, if_pos (hp.trans hk.symm)]; rfl
      · rw [if_neg hk, if_neg (fun z => hk (z.symm.trans hp)), if_neg (fun z => hk (z.symm.trans hp))]
    · rw [if_neg hp, lookup_cons', lookup_cons', lookup_cons', if_neg hp, lookup_setI kv n k v]
      by_cases hk : k = n
      · rw [if_pos hk, if_pos hk, if_neg (fun z => hp (z.trans hk))]
      · rw [if_neg hk, if_neg hk]
structure NearOk (pts : List Int) (ts : List (Int × Int)) (kv : List (Int × List Int)) : Prop where
  has : ∀ k, (kv.lookup k).isSome = true ↔ k ∈ pts
  items : ∀ k xs, kv.lookup k = some xs → (∀ z, z ∈ xs ↔ Adj pts ts k z) ∧ xs.length ≤ 2 * ts.length
theorem adj_append {a b k z : Int} {ts : List (Int × Int)} : Adj pts (ts ++ [(a, b)]) k z ↔ Adj pts ts k z ∨ (k ∈ pts ∧ z ∈ pts ∧ ((k = a ∧ z = b) ∨ (k = b ∧ z = a))) := by
  unfold Adj
  simp only [List.mem_append, List.mem_singleton, Prod.mk.injEq]
  constructor
  · rintro ⟨h1, h2, (h | h) | (h | h)⟩
    · exact .inl ⟨h1, h2, .inl h⟩
    · exact .inr ⟨h1, h2, .inl h⟩
    · exact .inl ⟨h1, h2, .inr h⟩
    · exact .inr ⟨h1, h2, .inr ⟨h.2, h.1⟩⟩
  · rintro (⟨h1, h2, h | h⟩ | ⟨h1, h2, h | h⟩)
    · exact ⟨h1, h2, .inl (.inl h)⟩
    · exact ⟨h1, h2, .inr (.inl h)⟩
    · exact ⟨h1, h2, .inl (.inr h)⟩
    · exact ⟨h1, h2, .inr (.inr ⟨h.2, h.1⟩)⟩
theorem near_skip {ts : List (Int × Int)} {kv : List (Int × List Int)} {a b : Int} (h : NearOk pts ts kv) (hab : ¬ (a ∈ pts ∧ b ∈ pts)) : NearOk pts (ts ++ [(a, b)]) kv := by
  refine ⟨h.has, fun k xs e => ⟨fun z => ?_, ?_⟩⟩
  · rw [(h.items k xs e).1 z, adj_append]
    constructor
    · exact .inl
    · rintro (q | ⟨h1, h2, ⟨rfl, rfl⟩ | ⟨rfl, rfl⟩⟩)
      · exact q
      · exact absurd ⟨h1, h2⟩ hab
      · exact absurd ⟨h2, h1⟩ hab
  · have := (h.items k xs e).2
    rw [List.length_append]
    simp only [List.length_singleton]
    omega
theorem near_step {ts : List (Int × Int)} {kv : List (Int × List Int)} {a b : Int} {xa xb : List Int} (h : NearOk pts ts kv) (ha : a ∈ pts) (hb : b ∈ pts) (ea : kv.lookup a = some xa) (eb : (setI kv a (xa ++ [b])).lookup b = some xb) :
    NearOk pts (ts ++ [(a, b)]) (setI (setI kv a (xa ++ [b])) b (xb ++ [a])) := by
  have l2 : ∀ k, (setI (setI kv a (xa ++ [b])) b (xb ++ [a])).lookup k = if k = b then some (xb ++ [a]) else if k = a then some (xa ++ [b]) else kv.lookup k := by
    intro k
    rw [lookup_setI, eb]
    by_cases hk : k = b
    · rw [if_pos hk, if_pos hk]; rfl
    · rw [if_neg hk, if_neg hk, lookup_setI, ea]
      by_cases hk2 : k = a
      · rw [if_pos hk2, if_pos hk2]; rfl
      · rw [if_neg hk2, if_neg hk2]
  have lb : xb = if b = a then xa ++ [b] else xb := by
    by_cases hba : b = a
    · rw [if_pos hba]
      rw [lookup_setI, if_pos hba, ea] at eb
      exact (Option.some.inj eb).symm
    · rw [if_neg hba]
  have lb2 : b ≠ a → kv.lookup b = some xb := fun hba => by rw [lookup_setI, if_neg hba] at eb; exact eb
  refine ⟨fun k => ?_, fun k xs e => ?_⟩
  · rw [l2 k]
    by_cases hk : k = b
    · rw [if_pos hk]; subst hk; simp [hb]
    · rw [if_neg hk]
      by_cases hk2 : k = a
      · rw [if_pos hk2]; subst hk2; simp [ha]
      · rw [if_neg hk2]; exact h.has k
  · rw [l2 k] at e
    have len : (ts ++ [(a, b)]).length = ts.length + 1 := by simp
    by_cases hk : k = b
    · rw [if_pos hk] at e
      cases (Option.some.inj e)
      subst hk
      by_cases hba : k = a
      · rw [if_pos hba] at lb
        subst hba
        have q := h.items k xa ea
        refine ⟨fun z => ?_, ?_⟩
        · rw [lb, adj_append, ← q.1 z]
          simp only [List.mem_append, List.mem_singleton]
          constructor
          · rintro ((h | h) | h)
            · exact .inl h
            · exact .inr ⟨hb, by rw [h]; exact hb, .inl ⟨trivial, h⟩⟩
            · exact .inr ⟨hb, by rw [h]; exact hb, .inl ⟨trivial, h⟩⟩
          · rintro (h | ⟨_, _, ⟨_, h⟩ | ⟨_, h⟩⟩)
            · exact .inl (.inl h)
            · exact .inr h
            · exact .inr h
        · rw [lb, len]; simp only [List.length_append, List.length_singleton]; omega
      · have q := h.items k xb (lb2 hba)
        refine ⟨fun z => ?_, ?_⟩
        · rw [adj_append, ← q.1 z]
          simp only [List.mem_append, List.mem_singleton]
          constructor
          · rintro (h | h)
            · exact .inl h
            · exact .inr ⟨hb, by rw [h]; exact ha, .inr ⟨trivial, h⟩⟩
          · rintro (h | ⟨_, _, ⟨h, _⟩ | ⟨_, h⟩⟩)
            · exact .inl h
            · exact absurd h hba
            · exact .inr h
        · rw [len]; simp only [List.length_append, List.length_singleton]; omega
    · rw [if_neg hk] at e
      by_cases hk2 : k = a
      · rw [if_pos hk2] at e
        cases (Option.some.inj e)
        subst hk2
        have q := h.items k xa ea
        refine ⟨fun z => ?_, ?_⟩
        · rw [adj_append, ← q.1 z]
          simp only [List.mem_append, List.mem_singleton]
          constructor
          · rintro (h | h)
            · exact .inl h
            · exact .inr ⟨ha, by rw [h]; exact hb, .inl ⟨trivial, h⟩⟩
          · rintro (h | ⟨_, _, ⟨_, h⟩ | ⟨h, _⟩⟩)
            · exact .inl h
            · exact .inr h
            · exact absurd h hk
        · rw [len]; simp only [List.length_append, List.length_singleton]; omega
      · rw [if_neg hk2] at e
        have q := h.items k xs e
        refine ⟨fun z => ?_, ?_⟩
        · rw [adj_append, ← q.1 z]
          constructor
          · exact .inl
          · rintro (h | ⟨_, _, ⟨h, _⟩ | ⟨h, _⟩⟩)
            · exact h
            · exact absurd h hk2
            · exact absurd h hk
        · rw [len]; omega

theorem lookup_none_of {β : Type} {kv : List (Int × β)} {k : Int} (h : ∀ p ∈ kv, p.1 ≠ k) : kv.lookup k = none := by
  induction kv with
  | nil => rfl
  | cons p kv ih =>
    rw [lookup_cons', if_neg (h p List.mem_cons_self)]
    exact ih fun q hq => h q (List.mem_cons_of_mem _ hq)
theorem lookup_map_nil {k : Int} : ∀ (xs : List Int), (xs.map fun k => (k, ([] : List Int))).lookup k = if k ∈ xs then some [] else none
  | [] => rfl
  | x :: xs => by
    rw [List.map_cons, lookup_cons', lookup_map_nil xs]
    by_cases hx : x = k
    · rw [if_pos hx, if_pos (by rw [hx]; exact List.mem_cons_self)]
    · rw [if_neg hx]
      by_cases hk : k ∈ xs
      · rw [if_pos hk, if_pos (List.mem_cons_of_mem _ hk)]
      · rw [if_neg hk, if_neg (fun z => (List.mem_cons.mp z).elim (fun z => hx z.symm) hk)]
theorem near_start (_h : pts.Nodup) : NearOk pts [] (pts.map fun k => (k, [])) := by
  refine ⟨fun k => ?_, fun k xs e => ?_⟩
  · rw [lookup_map_nil]
    by_cases hk : k ∈ pts
    · rw [if_pos hk]; simp [hk]
    · rw [if_neg hk]; simp [hk]
  · rw [lookup_map_nil] at e
    by_cases hk : k ∈ pts
    · rw [if_pos hk] at e
      cases e
      exact ⟨fun z => ⟨fun h => (nomatch h), fun h => by rcases h.2.2 with h | h <;> cases h⟩, Nat.zero_le _⟩
    · rw [if_neg hk] at e; cases e

/-! the search -/
/-- what holds while the group of p is searched: s0 is what was seen ahead of it -/
structure Dfs (pts : List Int) (ties : List (Int × Int)) (s0 : List Int) (p : Int) (seen group waiting : List Int) : Prop where
  nd : (group ++ waiting).Nodup
  sn : seen.Nodup
  mem : ∀ x, x ∈ seen ↔ x ∈ s0 ∨ x ∈ group ++ waiting
  re : ∀ x ∈ group ++ waiting, Reach pts ties p x ∧ x ∈ pts
  clo : ∀ x ∈ group, ∀ z, Adj pts ties x z → z ∈ seen
  st : p ∈ group ++ waiting
  /-- what is seen is of the points -/
  sub : ∀ x ∈ seen, x ∈ pts
theorem len_le {α : Type} [DecidableEq α] : ∀ {xs pts : List α}, xs.Nodup → (∀ x ∈ xs, x ∈ pts) → xs.length ≤ pts.length
  | [], _, _, _ => Nat.zero_le _
  | x :: xs, pts, h, hs => by
    have hx := hs x List.mem_cons_self
    have h1 := List.nodup_cons.mp h
    have ih := len_le (xs := xs) (pts := pts.erase x) h1.2 fun y hy => (List.mem_erase_of_ne (fun z => h1.1 (by rw [← z]; exact hy))).mpr (hs y (List.mem_cons_of_mem _ hy))
    have hl := List.length_erase_of_mem hx
    have hp := List.length_pos_of_mem hx
    simp only [List.length_cons]
    omega
/-- one neighbour more -/
theorem Dfs.push {s0 seen group waiting : List Int} {p m z : Int} (h : Dfs pts ties s0 p seen group waiting) (hm : m ∈ group) (a : Adj pts ties m z) (hz : z ∉ seen) :
    Dfs pts ties s0 p (seen ++ [z]) group (waiting ++ [z]) := by
  have h1 : z ∉ s0 := fun q => hz ((h.mem z).mpr (.inl q))
  have h2 : z ∉ group ++ waiting := fun q => hz ((h.mem z).mpr (.inr q))
  have hr := h.re m (List.mem_append_left _ hm)
  refine ⟨?_, ?_, fun x => ?_, fun x hx => ?_, fun x hx y ay => ?_, ?_, fun x hx => ?_⟩
  · rw [← List.append_assoc]
    refine List.nodup_append.mpr ⟨h.nd, by simp, fun x hx y hy e => ?_⟩
    rw [List.mem_singleton] at hy
    subst e hy
    exact h2 hx
  · refine List.nodup_append.mpr ⟨h.sn, by simp, fun x hx y hy e => ?_⟩
    rw [List.mem_singleton] at hy
    subst e hy
    exact hz hx
  · rw [← List.append_assoc, List.mem_append, List.mem_append, h.mem x, or_assoc]
  · rw [← List.append_assoc, List.mem_append, List.mem_singleton] at hx
    rcases hx with hx | rfl
    · exact h.re x hx
    · exact ⟨.tail hr.1 a, a.2.1⟩
  · exact List.mem_append_left _ (h.clo x hx y ay)
  · rw [← List.append_assoc]; exact List.mem_append_left _ h.st
  · rcases List.mem_append.mp hx with hx | hx
    · exact h.sub x hx
    · rw [List.mem_singleton] at hx; subst hx; exact a.2.1
/-- .. in the midst of the neighbours of m, which the group holds: done are those that were looked at -/
structure Dfs2 (pts : List Int) (ties : List (Int × Int)) (s0 : List Int) (p : Int) (seen group waiting : List Int) (m : Int) (done : List Int) : Prop where
  nd : (group ++ waiting).Nodup
  sn : seen.Nodup
  mem : ∀ x, x ∈ seen ↔ x ∈ s0 ∨ x ∈ group ++ waiting
  re : ∀ x ∈ group ++ waiting, Reach pts ties p x ∧ x ∈ pts
  clo : ∀ x ∈ group, x ≠ m → ∀ z, Adj pts ties x z → z ∈ seen
  st : p ∈ group ++ waiting
  sub : ∀ x ∈ seen, x ∈ pts
  hm : m ∈ group
  dn : ∀ z ∈ done, z ∈ seen
theorem Dfs.take {s0 seen group ws : List Int} {p m : Int} (h : Dfs pts ties s0 p seen group (ws ++ [m])) : Dfs2 pts ties s0 p seen (group ++ [m]) ws m [] := by
  have hp : ((group ++ [m]) ++ ws).Perm (group ++ (ws ++ [m])) := by
    rw [List.append_assoc]
    exact List.Perm.append_left _ List.perm_append_comm
  refine ⟨hp.nodup_iff.mpr h.nd, h.sn, fun x => by rw [h.mem x, hp.mem_iff], fun x hx => h.re x (hp.mem_iff.mp hx), fun x hx hne z a => ?_, hp.mem_iff.mpr h.st, h.sub, by simp, fun z hz => (nomatch hz)⟩
  rcases List.mem_append.mp hx with hx | hx
  · exact h.clo x hx z a
  · exact absurd (List.mem_singleton.mp hx) hne
theorem Dfs2.push {s0 seen group waiting dn : List Int} {p m z : Int} (h : Dfs2 pts ties s0 p seen group waiting m dn) (a : Adj pts ties m z) (hz : z ∉ seen) : Dfs2 pts ties s0 p (seen ++ [z]) group (waiting ++ [z]) m (dn ++ [z]) := by
  have h2 : z ∉ group ++ waiting := fun q => hz ((h.mem z).mpr (.inr q))
  refine ⟨?_, nodup_snoc h.sn hz, fun x => ?_, fun x hx => ?_, fun x hx hne y ay => List.mem_append_left _ (h.clo x hx hne y ay), ?_, fun x hx => ?_, h.hm, fun x hx => ?_⟩
  · rw [← List.append_assoc]; exact nodup_snoc h.nd h2
  · rw [← List.append_assoc, List.mem_append, List.mem_append, h.mem x, or_assoc]
  · rw [← List.append_assoc, List.mem_append, List.mem_singleton] at hx
    rcases hx with hx | rfl
    · exact h.re x hx
    · exact ⟨.tail (h.re m (List.mem_append_left _ h.hm)).1 a, a.2.1⟩
  · rw [← List.append_assoc]; exact List.mem_append_left _ h.st
  · rcases List.mem_append.mp hx with hx | hx
    · exact h.sub x hx
    · rw [List.mem_singleton] at hx; subst hx; exact a.2.1
  · rcases List.mem_append.mp hx with hx | hx
    · exact List.mem_append_left _ (h.dn x hx)
    · exact List.mem_append_right _ hx
theorem Dfs2.skip {s0 seen group waiting dn : List Int} {p m z : Int} (h : Dfs2 pts ties s0 p seen group waiting m dn) (hz : z ∈ seen) : Dfs2 pts ties s0 p seen group waiting m (dn ++ [z]) :=
  ⟨h.nd, h.sn, h.mem, h.re, h.clo, h.st, h.sub, h.hm, fun x hx => by
    rcases List.mem_append.mp hx with hx | hx
    · exact h.dn x hx
    · rw [List.mem_singleton] at hx; subst hx; exact hz⟩
theorem Dfs2.back {s0 seen group waiting dn : List Int} {p m : Int} (h : Dfs2 pts ties s0 p seen group waiting m dn) (hd : ∀ z, Adj pts ties m z → z ∈ dn) : Dfs pts ties s0 p seen group waiting :=
  ⟨h.nd, h.sn, h.mem, h.re, fun x hx z a => by
    by_cases e : x = m
    · subst e; exact h.dn z (hd z a)
    · exact h.clo x hx e z a, h.st, h.sub⟩
/-- the search is over -/
theorem Dfs.done {s0 seen group : List Int} {p : Int} (h : Dfs pts ties s0 p seen group []) (h0 : ∀ x y, x ∈ s0 → Reach pts ties x y → y ∈ s0) (hp : p ∉ s0) (x : Int) : x ∈ group ↔ x ∈ pts ∧ Reach pts ties p x := by
  have hg : ∀ y, y ∈ group ++ [] ↔ y ∈ group := fun y => by simp
  constructor
  · intro hx
    have := h.re x ((hg x).mpr hx)
    exact ⟨this.2, this.1⟩
  · rintro ⟨hx, hr⟩
    clear hx
    induction hr with
    | refl => exact (hg p).mp h.st
    | @tail y z hy a ih =>
      have := (h.mem z).mp (h.clo y ih z a)
      rcases this with q | q
      · exact absurd (h0 z p q (Reach.tail hy a).symm) hp
      · exact (hg z).mp q
/-- what has been seen behind the points xs -/
structure Seen (pts : List Int) (ties : List (Int × Int)) (xs seen : List Int) : Prop where
  nd : seen.Nodup
  mem : ∀ x, x ∈ seen ↔ x ∈ pts ∧ ∃ q ∈ xs, Reach pts ties q x
theorem Seen.clo {xs seen : List Int} (h : Seen pts ties xs seen) (x y : Int) (hx : x ∈ seen) (hr : Reach pts ties x y) : y ∈ seen := by
  obtain ⟨h1, q, hq, h2⟩ := (h.mem x).mp hx
  exact (h.mem y).mpr ⟨hr.mem h1, q, hq, h2.trans hr⟩
theorem Seen.start {xs seen : List Int} {p : Int} (h : Seen pts ties xs seen) (hp : p ∈ pts) (hn : p ∉ seen) : Dfs pts ties seen p (seen ++ [p]) [] [p] := by
  refine ⟨by simp, ?_, fun x => by simp, fun x hx => ?_, fun x hx => (nomatch hx), by simp, fun x hx => ?_⟩
  · refine List.nodup_append.mpr ⟨h.nd, by simp, fun x hx y hy e => ?_⟩
    rw [List.mem_singleton] at hy
    subst e hy
    exact hn hx
  · have e : x = p := by simpa using hx
    subst e
    exact ⟨.refl _, hp⟩
  · rcases List.mem_append.mp hx with hx | hx
    · exact ((h.mem x).mp hx).1
    · rw [List.mem_singleton] at hx; subst hx; exact hp
theorem Seen.next {xs seen seen' group : List Int} {p : Int} (h : Seen pts ties xs seen) (hn : p ∉ seen) (hd : Dfs pts ties seen p seen' group []) : Seen pts ties (xs ++ [p]) seen' := by
  refine ⟨hd.sn, fun x => ?_⟩
  have q := hd.done (fun a b => h.clo a b) hn x
  rw [hd.mem x, List.append_nil, q, h.mem x]
  constructor
  · rintro (⟨h1, y, hy, h2⟩ | ⟨h1, h2⟩)
    · exact ⟨h1, y, List.mem_append_left _ hy, h2⟩
    · exact ⟨h1, p, by simp, h2⟩
  · rintro ⟨h1, y, hy, h2⟩
    rcases List.mem_append.mp hy with hy | hy
    · exact .inl ⟨h1, y, hy, h2⟩
    · rw [List.mem_singleton] at hy; subst hy; exact .inr ⟨h1, h2⟩
theorem Seen.skip {xs seen : List Int} {p : Int} (h : Seen pts ties xs seen) (hp : p ∈ seen) : Seen pts ties (xs ++ [p]) seen := by
  refine ⟨h.nd, fun x => ?_⟩
  rw [h.mem x]
  constructor
  · rintro ⟨h1, y, hy, h2⟩
    exact ⟨h1, y, List.mem_append_left _ hy, h2⟩
  · rintro ⟨h1, y, hy, h2⟩
    rcases List.mem_append.mp hy with hy | hy
    · exact ⟨h1, y, hy, h2⟩
    · rw [List.mem_singleton] at hy
      subst hy
      obtain ⟨_, q, hq, h3⟩ := (h.mem y).mp hp
      exact ⟨h1, q, hq, h3.trans h2⟩
/-- of sorted points -/
theorem sorted_before {xs : List Int} {i : Nat} {p q : Int} (hs : xs.Pairwise (· < ·)) (hi : xs[i]? = some p) (hq : q ∈ xs) : q ∈ xs.take i ↔ q < p := by
  obtain ⟨hlt, e⟩ := List.getElem?_eq_some_iff.mp hi
  constructor
  · intro h
    obtain ⟨j, hj, e2⟩ := List.mem_take_iff_getElem.mp h
    have := List.pairwise_iff_getElem.mp hs j i (by omega) hlt (by omega)
    rw [e, e2] at this
    exact this
  · intro h
    obtain ⟨j, hj, e2⟩ := List.mem_iff_getElem.mp hq
    have hji : j < i := by
      rcases Nat.lt_trichotomy j i with h1 | h1 | h1
      · exact h1
      · subst h1; rw [e] at e2; omega
      · have := List.pairwise_iff_getElem.mp hs i j hlt hj h1
        rw [e, e2] at this
        omega
    exact List.mem_take_iff_getElem.mpr ⟨j, by omega, e2⟩
theorem isort_lt (h : pts.Nodup) : (isort pts).Pairwise (· < ·) :=
  List.Pairwise.imp₂ (fun x y h1 h2 => by omega) (isort_pw pts) (List.nodup_iff_pairwise_ne.mp (isort_nodup h))
theorem min_iff (h : pts.Nodup) {i : Nat} {p : Int} {seen : List Int} (hi : (isort pts)[i]? = some p) (hs : Seen pts ties ((isort pts).take i) seen) : IsMin pts ties p ↔ p ∉ seen := by
  have hm : p ∈ pts := mem_isort.mp (List.mem_of_getElem? hi)
  constructor
  · intro hmin hp
    obtain ⟨_, q, hq, hr⟩ := (hs.mem p).mp hp
    have hq2 := List.mem_of_mem_take hq
    have h1 := (sorted_before (isort_lt h) hi hq2).mp hq
    have h2 := hmin q (mem_isort.mp hq2) hr.symm
    omega
  · intro hp q hq hr
    by_cases hlt : q < p
    · exact absurd ((hs.mem p).mpr ⟨hm, q, (sorted_before (isort_lt h) hi (mem_isort.mpr hq)).mpr hlt, hr.symm⟩) hp
    · omega
theorem firsts_take (i : Nat) {p : Int} {xs : List Int} (hi : xs[i]? = some p) : (IsMin pts ties p → firsts pts ties (xs.take (i + 1)) = firsts pts ties (xs.take i) ++ [p]) ∧ (¬ IsMin pts ties p → firsts pts ties (xs.take (i + 1)) = firsts pts ties (xs.take i)) := by
  unfold firsts
  rw [getElem?_filterTake _ xs hi]
  constructor
  · intro h; rw [if_pos (by simpa using h)]
  · intro h; rw [if_neg (by simpa using h), List.append_nil]

/-! groups hang together -/
def Conn (g : List Int) (ts : List (Int × Int)) : Prop := ∀ R : Int → Prop, (∀ x, g[0]? = some x → R x) → (∀ a b, (a, b) ∈ ts → (R a → b ∈ g → R b) ∧ (R b → a ∈ g → R a)) → ∀ x ∈ g, R x
/-- .. and are not parted -/
theorem comp_clo {p a b : Int} (h : Adj pts ties a b) : a ∈ compOf pts ties p ↔ b ∈ compOf pts ties p := by
  rw [mem_comp, mem_comp]
  exact ⟨fun q => ⟨h.2.1, .tail q.2 h⟩, fun q => ⟨h.1, .tail q.2 h.symm⟩⟩
theorem mem_firsts {xs : List Int} {p : Int} : p ∈ firsts pts ties xs ↔ p ∈ xs ∧ IsMin pts ties p := by
  unfold firsts
  rw [List.mem_filter, decide_eq_true_eq]
theorem comp_first (hn : pts.Nodup) {p : Int} (hp : p ∈ pts) (hm : IsMin pts ties p) : (compOf pts ties p)[0]? = some p := by
  have hmem : p ∈ compOf pts ties p := mem_comp.mpr ⟨hp, .refl _⟩
  have hlt := comp_lt (ties := ties) hn p
  cases hc : compOf pts ties p with
  | nil => rw [hc] at hmem; cases hmem
  | cons y ys =>
    rw [hc] at hmem hlt
    have hy : y ∈ pts ∧ Reach pts ties p y := mem_comp.mp (by rw [hc]; exact List.mem_cons_self)
    have h1 := hm y hy.1 hy.2
    rcases List.mem_cons.mp hmem with e | e
    · rw [e]; rfl
    · have := (List.pairwise_cons.mp hlt).1 p e
      omega
theorem comp_conn (hn : pts.Nodup) {p : Int} (hp : p ∈ pts) (hm : IsMin pts ties p) : Conn (compOf pts ties p) ties := by
  intro R h0 hc x hx
  have hr := (mem_comp.mp hx).2
  clear hx
  induction hr with
  | refl => exact h0 p (comp_first hn hp hm)
  | @tail y z hy a ih =>
    have hym : y ∈ compOf pts ties p := mem_comp.mpr ⟨hy.mem hp, hy⟩
    have hzm : z ∈ compOf pts ties p := (comp_clo a).mp hym
    rcases a.2.2 with h | h
    · exact (hc y z h).1 ih hzm
    · exact (hc z y h).2 ih hzm
/-- what each group is -/
theorem groups_at (hn : pts.Nodup) {g : List Int} (h : g ∈ groupsOf pts ties) : ∃ p ∈ pts, IsMin pts ties p ∧ g = compOf pts ties p := by
  obtain ⟨p, hp, rfl⟩ := List.mem_map.mp h
  obtain ⟨h1, h2⟩ := mem_firsts.mp hp
  exact ⟨p, mem_isort.mp h1, h2, rfl⟩
theorem groups_lt (hn : pts.Nodup) {g : List Int} (h : g ∈ groupsOf pts ties) : g.Pairwise (· < ·) := by
  obtain ⟨p, _, _, rfl⟩ := groups_at hn h
  exact comp_lt hn p
/-- each point is in one group, the group of one lowest point -/
theorem exists_min (hn : pts.Nodup) {x : Int} (hx : x ∈ pts) : ∃ p ∈ pts, IsMin pts ties p ∧ Reach pts ties p x := by
  have key : ∀ (n : Nat) (y : Int), y ∈ pts → Reach pts ties y x → (pts.filter fun z => decide (z < y)).length ≤ n → ∃ p ∈ pts, IsMin pts ties p ∧ Reach pts ties p x := by
    intro n
    induction n with
    | zero =>
      intro y hy hr hl
      refine ⟨y, hy, fun q hq hrq => ?_, hr⟩
      by_cases hlt : q < y
      · have : q ∈ pts.filter fun z => decide (z < y) := List.mem_filter.mpr ⟨hq, by simpa using hlt⟩
        have := List.length_pos_of_mem this
        omega
      · omega
    | succ n ih =>
      intro y hy hr hl
      by_cases hm : IsMin pts ties y
      · exact ⟨y, hy, hm, hr⟩
      · have : ∃ q ∈ pts, Reach pts ties y q ∧ q < y := by
          apply Classical.byContradiction
          intro z
          refine hm fun q hq hrq => ?_
          by_cases hlt : q < y
          · exact absurd ⟨q, hq, hrq, hlt⟩ z
          · omega
        obtain ⟨q, hq, hrq, hlt⟩ := this
        refine ih q hq (hrq.symm.trans hr) ?_
        have h1 : (pts.filter fun z => decide (z < q)).length < (pts.filter fun z => decide (z < y)).length := by
          have hsub : ∀ z ∈ q :: pts.filter (fun z => decide (z < q)), z ∈ pts.filter fun z => decide (z < y) := by
            intro z hz
            rcases List.mem_cons.mp hz with e | hz
            · subst e; exact List.mem_filter.mpr ⟨hq, by simpa using hlt⟩
            · obtain ⟨h1, h2⟩ := List.mem_filter.mp hz
              have h3 : z < q := by simpa using h2
              exact List.mem_filter.mpr ⟨h1, by simp; omega⟩
          have hnd : (q :: pts.filter (fun z => decide (z < q))).Nodup := List.nodup_cons.mpr ⟨fun z => by simpa using (List.mem_filter.mp z).2, List.Sublist.nodup List.filter_sublist hn⟩
          have := len_le hnd hsub
          simp only [List.length_cons] at this
          omega
        omega
  exact key _ x hx (.refl _) (Nat.le_refl _)
theorem min_unique {p q x : Int} (hp : p ∈ pts) (hq : q ∈ pts) (hmp : IsMin pts ties p) (hmq : IsMin pts ties q) (h1 : Reach pts ties p x) (h2 : Reach pts ties q x) : p = q := by
  have a := hmp q hq (h1.trans h2.symm)
  have b := hmq p hp (h2.trans h1.symm)
  omega
theorem filter_one {α : Type} [DecidableEq α] {xs : List α} {x : α} (hn : xs.Nodup) (hx : x ∈ xs) (f : α → Bool) (h : ∀ y ∈ xs, f y = true ↔ y = x) : xs.filter f = [x] := by
  induction xs with
  | nil => cases hx
  | cons y ys ih =>
    have hc := List.nodup_cons.mp hn
    by_cases e : y = x
    · subst e
      rw [List.filter_cons_of_pos ((h y List.mem_cons_self).mpr rfl)]
      have : ys.filter f = [] := List.filter_eq_nil_iff.mpr fun z hz q => hc.1 (by rw [← (h z (List.mem_cons_of_mem _ hz)).mp q]; exact hz)
      rw [this]
    · rw [List.filter_cons_of_neg (fun q => e ((h y List.mem_cons_self).mp q))]
      refine ih hc.2 ?_ fun z hz => h z (List.mem_cons_of_mem _ hz)
      rcases List.mem_cons.mp hx with q | q
      · exact absurd q.symm e
      · exact q
theorem groups_one (hn : pts.Nodup) {x : Int} (hx : x ∈ pts) : ((groupsOf pts ties).filter fun g => decide (x ∈ g)).length = 1 := by
  obtain ⟨p, hp, hm, hr⟩ := exists_min (ties := ties) hn hx
  unfold groupsOf
  rw [List.filter_map, List.length_map]
  have hnf : (firsts pts ties (isort pts)).Nodup := List.Sublist.nodup List.filter_sublist (isort_nodup hn)
  rw [filter_one hnf (x := p) (mem_firsts.mpr ⟨mem_isort.mpr hp, hm⟩)]
  · rfl
  · intro q hq
    obtain ⟨hq1, hq2⟩ := mem_firsts.mp hq
    simp only [Function.comp, decide_eq_true_eq]
    rw [mem_comp]
    exact ⟨fun z => (min_unique hp (mem_isort.mp hq1) hm hq2 hr z.2).symm, fun z => by subst z; exact ⟨hx, hr⟩⟩
/-- the lowest points ascend -/
theorem firsts_lt (hn : pts.Nodup) : (firsts pts ties (isort pts)).Pairwise (· < ·) := List.Pairwise.filter _ (isort_lt hn)
end
end G

/-! GN: groups by labels, in plain Lean. -/
namespace G
section
variable {pts : List Int} {ties : List (Int × Int)}
structure LabOk (pts : List Int) (ts : List (Int × Int)) (kv : List (Int × Int)) : Prop where
  has : ∀ k, (kv.lookup k).isSome = true ↔ k ∈ pts
  le : ∀ x y, kv.lookup x = some y → y ≤ x ∧ y ∈ pts ∧ Reach pts ts x y
def Cor (pts : List Int) (ts : List (Int × Int)) (kv : List (Int × Int)) (x : Int) : Prop := ∃ y, kv.lookup x = some y ∧ IsMin pts ts y
noncomputable instance decCor {pts : List Int} {ts : List (Int × Int)} {kv : List (Int × Int)} {x : Int} : Decidable (Cor pts ts kv x) := Classical.propDecidable _
noncomputable def corr (pts : List Int) (ts : List (Int × Int)) (kv : List (Int × Int)) : List Int := pts.filter fun x => decide (Cor pts ts kv x)
theorem mem_corr {kv : List (Int × Int)} {x : Int} : x ∈ corr pts ties kv ↔ x ∈ pts ∧ Cor pts ties kv x := by
  unfold corr
  rw [List.mem_filter, decide_eq_true_eq]
theorem lab_step {kv : List (Int × Int)} {a b la lb low : Int} (h : LabOk pts ties kv) (ha : a ∈ pts) (hb : b ∈ pts) (ht : (a, b) ∈ ties) (ea : kv.lookup a = some la) (eb : kv.lookup b = some lb) (hl : low = if lb < la then lb else la) :
    LabOk pts ties (putI (putI kv a low) b low) ∧ (∀ x, Cor pts ties kv x → Cor pts ties (putI (putI kv a low) b low) x) ∧ (Cor pts ties kv a → Cor pts ties (putI (putI kv a low) b low) b) ∧ (Cor pts ties kv b → Cor pts ties (putI (putI kv a low) b low) a) := by
  have ad : Adj pts ties a b := ⟨ha, hb, .inl ht⟩
  have l2 : ∀ k, (putI (putI kv a low) b low).lookup k = if k = b then some low else if k = a then some low else kv.lookup k := by
    intro k
    rw [lookup_putI, lookup_putI]
  have qa := h.le a la ea
  have qb := h.le b lb eb
  have rab : Reach pts ties a b := .tail (.refl _) ad
  have lo : low = la ∨ low = lb := by rw [hl]; split <;> simp
  have lo2 : low ≤ la ∧ low ≤ lb := by rw [hl]; split <;> omega
  have ra : Reach pts ties a low := by
    rcases lo with e | e
    · rw [e]; exact qa.2.2
    · rw [e]; exact rab.trans qb.2.2
  have mlow : low ∈ pts := ra.mem ha
  have both : Cor pts ties kv a ∨ Cor pts ties kv b → IsMin pts ties low := by
    rintro (⟨y, ey, hy⟩ | ⟨y, ey, hy⟩)
    · rw [ea] at ey
      cases ey
      have := hy low mlow (qa.2.2.symm.trans ra)
      have e : low = la := by omega
      rw [e]; exact hy
    · rw [eb] at ey
      cases ey
      have := hy low mlow (qb.2.2.symm.trans (rab.symm.trans ra))
      have e : low = lb := by omega
      rw [e]; exact hy
  have cb : IsMin pts ties low → Cor pts ties (putI (putI kv a low) b low) b := fun hm => ⟨low, by rw [l2, if_pos rfl], hm⟩
  have ca : IsMin pts ties low → Cor pts ties (putI (putI kv a low) b low) a := fun hm => ⟨low, by
    rw [l2]
    by_cases e : a = b
    · rw [if_pos e]
    · rw [if_neg e, if_pos rfl], hm⟩
  refine ⟨⟨fun k => ?_, fun x y e => ?_⟩, fun x hx => ?_, fun q => cb (both (.inl q)), fun q => ca (both (.inr q))⟩
  · rw [l2]
    by_cases e1 : k = b
    · rw [if_pos e1]; subst e1; simp [hb]
    · rw [if_neg e1]
      by_cases e2 : k = a
      · rw [if_pos e2]; subst e2; simp [ha]
      · rw [if_neg e2]; exact h.has k
  · rw [l2] at e
    by_cases e1 : x = b
    · rw [if_pos e1] at e
      cases e
      subst e1
      exact ⟨by omega, mlow, rab.symm.trans ra⟩
    · rw [if_neg e1] at e
      by_cases e2 : x = a
      · rw [if_pos e2] at e
        cases e
        subst e2
        exact ⟨by omega, mlow, ra⟩
      · rw [if_neg e2] at e
        exact h.le x y e
  · by_cases e1 : x = b
    · subst e1; exact cb (both (.inr hx))
    · by_cases e2 : x = a
      · subst e2; exact ca (both (.inl hx))
      · obtain ⟨y, ey, hy⟩ := hx
        exact ⟨y, by rw [l2, if_neg e1, if_neg e2]; exact ey, hy⟩
theorem lab_full (hn : pts.Nodup) {kv : List (Int × Int)} (h : LabOk pts ties kv) (hc : ∀ a b, Adj pts ties a b → Cor pts ties kv a → Cor pts ties kv b) {x : Int} (hx : x ∈ pts) : Cor pts ties kv x := by
  obtain ⟨p, hp, hm, hr⟩ := exists_min (ties := ties) hn hx
  obtain ⟨y, ey⟩ := Option.isSome_iff_exists.mp ((h.has p).mpr hp)
  have q := h.le p y ey
  have e : y = p := by have := hm y q.2.1 q.2.2; omega
  clear hx
  induction hr with
  | refl => exact ⟨y, ey, by rw [e]; exact hm⟩
  | tail hr a ih => exact hc _ _ a ih
/-- a round makes more of them right, until all are -/
theorem lab_round (hn : pts.Nodup) {kv0 kv : List (Int × Int)} {n : Nat} (h0 : LabOk pts ties kv0) (hm : ∀ x, Cor pts ties kv0 x → Cor pts ties kv x)
    (hd : ∀ a b, (a, b) ∈ ties → a ∈ pts → b ∈ pts → (Cor pts ties kv0 a → Cor pts ties kv b) ∧ (Cor pts ties kv0 b → Cor pts ties kv a)) (hk : n ≤ (corr pts ties kv0).length ∨ pts.length ≤ (corr pts ties kv0).length) :
    n + 1 ≤ (corr pts ties kv).length ∨ pts.length ≤ (corr pts ties kv).length := by
  have nd0 : (corr pts ties kv0).Nodup := List.Sublist.nodup List.filter_sublist hn
  have nd1 : (corr pts ties kv).Nodup := List.Sublist.nodup List.filter_sublist hn
  have sub : ∀ x ∈ corr pts ties kv0, x ∈ corr pts ties kv := fun x hx => mem_corr.mpr ⟨(mem_corr.mp hx).1, hm x (mem_corr.mp hx).2⟩
  have l0 := len_le nd0 sub
  by_cases all : ∀ a b, Adj pts ties a b → Cor pts ties kv0 a → Cor pts ties kv0 b
  · right
    exact len_le hn fun x hx => mem_corr.mpr ⟨hx, hm x (lab_full hn h0 all hx)⟩
  · have : ∃ a b, Adj pts ties a b ∧ Cor pts ties kv0 a ∧ ¬ Cor pts ties kv0 b := by
      apply Classical.byContradiction
      intro z
      refine all fun a b h1 h2 => ?_
      apply Classical.byContradiction
      intro h3
      exact z ⟨a, b, h1, h2, h3⟩
    obtain ⟨a, b, ad, ca, nb⟩ := this
    have cb : Cor pts ties kv b := by
      rcases ad.2.2 with h | h
      · exact (hd a b h ad.1 ad.2.1).1 ca
      · exact (hd b a h ad.2.1 ad.1).2 ca
    have l1 : (b :: corr pts ties kv0).length ≤ (corr pts ties kv).length := len_le (List.nodup_cons.mpr ⟨fun z => nb (mem_corr.mp z).2, nd0⟩) fun x hx => by
      rcases List.mem_cons.mp hx with e | e
      · rw [e]; exact mem_corr.mpr ⟨ad.2.1, cb⟩
      · exact sub x e
    rw [List.length_cons] at l1
    omega
theorem lab_all (hn : pts.Nodup) {kv : List (Int × Int)} (h : pts.length ≤ (corr pts ties kv).length) {x : Int} (hx : x ∈ pts) : Cor pts ties kv x := by
  apply Classical.byContradiction
  intro z
  have nd : (corr pts ties kv).Nodup := List.Sublist.nodup List.filter_sublist hn
  have := len_le (xs := x :: corr pts ties kv) (List.nodup_cons.mpr ⟨fun q => z (mem_corr.mp q).2, nd⟩) (pts := pts) fun y hy => by
    rcases List.mem_cons.mp hy with e | e
    · rw [e]; exact hx
    · exact (mem_corr.mp e).1
  rw [List.length_cons] at this
  omega
theorem lab_min (hn : pts.Nodup) {kv : List (Int × Int)} (h : LabOk pts ties kv) (hc : ∀ x ∈ pts, Cor pts ties kv x) {p y : Int} (hp : p ∈ pts) (e : kv.lookup p = some y) : y = p ↔ IsMin pts ties p := by
  obtain ⟨z, ez, hz⟩ := hc p hp
  rw [e] at ez
  cases ez
  have q := h.le p y e
  constructor
  · intro e2; rw [← e2]; exact hz
  · intro hm; exact (min_unique hp q.2.1 hm hz (.refl p) q.2.2.symm).symm
theorem lab_group (hn : pts.Nodup) {kv : List (Int × Int)} (h : LabOk pts ties kv) (hc : ∀ x ∈ pts, Cor pts ties kv x) {p : Int} (hp : p ∈ pts) (hm : IsMin pts ties p) : (isort pts).filter (fun x => decide (kv.lookup x = some p)) = compOf pts ties p := by
  unfold compOf
  refine List.filter_congr fun x hx => ?_
  have hx' := mem_isort.mp hx
  obtain ⟨y, ey, hy⟩ := hc x hx'
  have q := h.le x y ey
  refine decide_eq_decide.mpr ⟨fun e => ?_, fun r => ?_⟩
  · rw [ey] at e
    cases e
    exact q.2.2.symm
  · rw [ey, min_unique hp q.2.1 hm hy r q.2.2.symm]
noncomputable def oddOf (pts : List Int) (ts : List (Int × Int)) : List (List Int) := (groupsOf pts ts).filter fun g => decide ((g.length : Int) % 2 = 1)
theorem groups_len (hn : pts.Nodup) : (groupsOf pts ties).length ≤ pts.length := by
  unfold groupsOf
  rw [List.length_map]
  have h1 : (firsts pts ties (isort pts)).length ≤ (isort pts).length := List.length_filter_le _ _
  rw [(isort_perm pts).length_eq] at h1
  exact h1
theorem group_len (hn : pts.Nodup) {g : List Int} (h : g ∈ groupsOf pts ties) : g.length ≤ pts.length := by
  obtain ⟨q, _, _, rfl⟩ := groups_at hn h
  exact len_le ((comp_lt hn q).imp (fun h => by omega)) fun y hy => (mem_comp.mp hy).1
theorem putI_has {β : Type} {kv : List (Int × β)} {n : Int} {x : β} (h : (kv.lookup n).isSome = true) : (putI kv n x).length = kv.length := by
  unfold putI
  rw [if_pos h, List.length_map]
end
end G

namespace K36
open PySem L2 G
/-! the text by places -/
def topS (i : Nat) : Stmt := PySem.Challenge.pw_comesapart_k36_odd_pieces_and_bars.main.body.getD i (.Pass ⟨0, 0, 0, 0⟩)
abbrev s_l_cell : Stmt := topS 6
abbrev N_l_cell : List Str := ["_law_script", "_law_k"]
theorem sc_l_cell : FnScope N_l_cell ["_law_script", "_law_k"] (defScope s_l_cell) := ⟨rfl, rfl, rfl, by decide +kernel, rfl, by decide +kernel, by decide +kernel⟩
abbrev s_l_draws : Stmt := topS 7
abbrev N_l_draws : List Str := ["_law_cell_here", "_law_many", "_law_rest", "_law_exact", "_law_mixed", "_law_draws_here", "_law_k"]
theorem sc_l_draws : FnScope N_l_draws ["_law_cell_here", "_law_many"] (defScope s_l_draws) := ⟨rfl, rfl, rfl, by decide +kernel, rfl, by decide +kernel, by decide +kernel⟩
abbrev s_l_pick : Stmt := topS 8
abbrev N_l_pick : List Str := ["_law_draws_here", "_law_k", "_law_many"]
theorem sc_l_pick : FnScope N_l_pick ["_law_draws_here", "_law_k", "_law_many"] (defScope s_l_pick) := ⟨rfl, rfl, rfl, by decide +kernel, rfl, by decide +kernel, by decide +kernel⟩
abbrev s_l_points : Stmt := topS 9
abbrev N_l_points : List Str := ["_law_draws_here", "_law_most", "_law_points_here", "_law_k", "_law_point"]
theorem sc_l_points : FnScope N_l_points ["_law_draws_here", "_law_most"] (defScope s_l_points) := ⟨rfl, rfl, rfl, by decide +kernel, rfl, by decide +kernel, by decide +kernel⟩
abbrev s_l_end : Stmt := topS 10
abbrev N_l_end : List Str := ["_law_draws_here", "_law_k", "_law_points_here"]
theorem sc_l_end : FnScope N_l_end ["_law_draws_here", "_law_k", "_law_points_here"] (defScope s_l_end) := ⟨rfl, rfl, rfl, by decide +kernel, rfl, by decide +kernel, by decide +kernel⟩
abbrev s_l_removed : Stmt := topS 13
abbrev N_l_removed : List Str := ["_law_draws_here", "_law_points_here", "_law_pool", "_law_removed_here", "_law_k"]
theorem sc_l_removed : FnScope N_l_removed ["_law_draws_here", "_law_points_here"] (defScope s_l_removed) := ⟨rfl, rfl, rfl, by decide +kernel, rfl, by decide +kernel, by decide +kernel⟩
abbrev s_l_groups : Stmt := topS 11
abbrev N_l_groups : List Str := ["_law_points_here", "_law_ties", "_law_label", "_law_point", "_law_k", "_law_one", "_law_other", "_law_low", "_law_groups_here"]
theorem sc_l_groups : FnScope N_l_groups ["_law_points_here", "_law_ties"] (defScope s_l_groups) := ⟨rfl, rfl, rfl, by decide +kernel, rfl, by decide +kernel, by decide +kernel⟩
abbrev s_l_odd : Stmt := topS 12
abbrev N_l_odd : List Str := ["_law_points_here", "_law_ties", "_law_group"]
theorem sc_l_odd : FnScope N_l_odd ["_law_points_here", "_law_ties"] (defScope s_l_odd) := ⟨rfl, rfl, rfl, by decide +kernel, rfl, by decide +kernel, by decide +kernel⟩
abbrev s_p_grouped : Stmt := topS 1
abbrev N_p_grouped : List Str := ["points", "ties", "point", "near", "one", "other", "groups", "seen", "group", "waiting", "member"]
theorem sc_p_grouped : FnScope N_p_grouped ["points", "ties"] (defScope s_p_grouped) := ⟨rfl, rfl, rfl, by decide +kernel, rfl, by decide +kernel, by decide +kernel⟩
abbrev s_p_odd_pieces : Stmt := topS 3
abbrev N_p_odd_pieces : List Str := ["points", "ties", "group"]
theorem sc_p_odd_pieces : FnScope N_p_odd_pieces ["points", "ties"] (defScope s_p_odd_pieces) := ⟨rfl, rfl, rfl, by decide +kernel, rfl, by decide +kernel, by decide +kernel⟩
abbrev s_l_same : Stmt := topS 14
abbrev N_l_same : List Str := ["_law_told", "_law_due", "_law_k", "_law_point"]
theorem sc_l_same : FnScope N_l_same ["_law_told", "_law_due"] (defScope s_l_same) := ⟨rfl, rfl, rfl, by decide +kernel, rfl, by decide +kernel, by decide +kernel⟩
abbrev s_p_bars : Stmt := topS 4
abbrev N_p_bars : List Str := ["points", "ties", "removed", "left", "point"]
theorem sc_p_bars : FnScope N_p_bars ["points", "ties", "removed"] (defScope s_p_bars) := ⟨rfl, rfl, rfl, by decide +kernel, rfl, by decide +kernel, by decide +kernel⟩
abbrev s_l_bars : Stmt := topS 15
abbrev N_l_bars : List Str := ["_law_points_here", "_law_ties", "_law_removed_here", "_law_left", "_law_due", "_law_passed_points", "_law_passed_ties", "_law_passed_removed", "_law_told", "_law_point"]
theorem sc_l_bars : FnScope N_l_bars ["_law_points_here", "_law_ties", "_law_removed_here"] (defScope s_l_bars) := ⟨rfl, rfl, rfl, by decide +kernel, rfl, by decide +kernel, by decide +kernel⟩
abbrev s_law : Stmt := topS 16
abbrev N_law : List Str := ["_law_script", "_law_points_here", "_law_draws_here", "_law_ties", "_law_k", "_law_removed_here", "_law_due", "_law_passed_points", "_law_passed_ties", "_law_told", "_law_group", "_law_lot"]
theorem sc_law : FnScope N_law ["_law_script"] (defScope s_law) := ⟨rfl, rfl, rfl, by decide +kernel, rfl, by decide +kernel, by decide +kernel⟩
/-- what the top has written -/
structure Txt (K : PySem.W.Frag) (mg : Str → Option Value) where
  b_abs : mg "abs" = none
  b_bool : mg "bool" = none
  b_int : mg "int" = none
  b_isinstance : mg "isinstance" = none
  b_len : mg "len" = none
  b_list : mg "list" = none
  b_min : mg "min" = none
  b_range : mg "range" = none
  b_set : mg "set" = none
  b_sorted : mg "sorted" = none
  a_l_cell : Addr
  f_l_cell : FuncData
  F_l_cell : Fun K "_law_cell" "_law_cell" s_l_cell a_l_cell f_l_cell
  d_l_cell : Binds K f_l_cell ["_law_script", "_law_k"] []
  g_l_cell : mg "_law_cell" = some (.ref a_l_cell)
  a_l_draws : Addr
  f_l_draws : FuncData
  F_l_draws : Fun K "_law_draws" "_law_draws" s_l_draws a_l_draws f_l_draws
  d_l_draws : Binds K f_l_draws ["_law_cell_here", "_law_many"] []
  g_l_draws : mg "_law_draws" = some (.ref a_l_draws)
  a_l_pick : Addr
  f_l_pick : FuncData
  F_l_pick : Fun K "_law_pick" "_law_pick" s_l_pick a_l_pick f_l_pick
  d_l_pick : Binds K f_l_pick ["_law_draws_here", "_law_k", "_law_many"] []
  g_l_pick : mg "_law_pick" = some (.ref a_l_pick)
  a_l_points : Addr
  f_l_points : FuncData
  F_l_points : Fun K "_law_points" "_law_points" s_l_points a_l_points f_l_points
  d_l_points : Binds K f_l_points ["_law_draws_here", "_law_most"] []
  g_l_points : mg "_law_points" = some (.ref a_l_points)
  a_l_end : Addr
  f_l_end : FuncData
  F_l_end : Fun K "_law_end" "_law_end" s_l_end a_l_end f_l_end
  d_l_end : Binds K f_l_end ["_law_draws_here", "_law_k", "_law_points_here"] []
  g_l_end : mg "_law_end" = some (.ref a_l_end)
  a_l_removed : Addr
  f_l_removed : FuncData
  F_l_removed : Fun K "_law_removed" "_law_removed" s_l_removed a_l_removed f_l_removed
  d_l_removed : Binds K f_l_removed ["_law_draws_here", "_law_points_here"] []
  g_l_removed : mg "_law_removed" = some (.ref a_l_removed)
  a_l_groups : Addr
  f_l_groups : FuncData
  F_l_groups : Fun K "_law_groups" "_law_groups" s_l_groups a_l_groups f_l_groups
  d_l_groups : Binds K f_l_groups ["_law_points_here", "_law_ties"] []
  g_l_groups : mg "_law_groups" = some (.ref a_l_groups)
  a_l_odd : Addr
  f_l_odd : FuncData
  F_l_odd : Fun K "_law_odd" "_law_odd" s_l_odd a_l_odd f_l_odd
  d_l_odd : Binds K f_l_odd ["_law_points_here", "_law_ties"] []
  g_l_odd : mg "_law_odd" = some (.ref a_l_odd)
  a_p_grouped : Addr
  f_p_grouped : FuncData
  F_p_grouped : Fun K "grouped" "grouped" s_p_grouped a_p_grouped f_p_grouped
  d_p_grouped : Binds K f_p_grouped ["points", "ties"] []
  g_p_grouped : mg "grouped" = some (.ref a_p_grouped)
  a_p_odd_pieces : Addr
  f_p_odd_pieces : FuncData
  F_p_odd_pieces : Fun K "odd_pieces" "odd_pieces" s_p_odd_pieces a_p_odd_pieces f_p_odd_pieces
  d_p_odd_pieces : Binds K f_p_odd_pieces ["points", "ties"] []
  g_p_odd_pieces : mg "odd_pieces" = some (.ref a_p_odd_pieces)
  a_l_same : Addr
  f_l_same : FuncData
  F_l_same : Fun K "_law_same" "_law_same" s_l_same a_l_same f_l_same
  d_l_same : Binds K f_l_same ["_law_told", "_law_due"] []
  g_l_same : mg "_law_same" = some (.ref a_l_same)
  a_p_bars : Addr
  f_p_bars : FuncData
  F_p_bars : Fun K "bars" "bars" s_p_bars a_p_bars f_p_bars
  d_p_bars : Binds K f_p_bars ["points", "ties", "removed"] []
  g_p_bars : mg "bars" = some (.ref a_p_bars)
  a_l_bars : Addr
  f_l_bars : FuncData
  F_l_bars : Fun K "_law_bars" "_law_bars" s_l_bars a_l_bars f_l_bars
  d_l_bars : Binds K f_l_bars ["_law_points_here", "_law_ties", "_law_removed_here"] []
  g_l_bars : mg "_law_bars" = some (.ref a_l_bars)
  a_law : Addr
  f_law : FuncData
  F_law : Fun K "law" "law" s_law a_law f_law
  d_law : Binds K f_law ["_law_script"] []
  g_law : mg "law" = some (.ref a_law)
theorem hu64 {A : Around} {k : Nat} (hr : Room k A) : A.units + 64 < cLine := hr.units
section
variable {C : GCtx}
def pick (d : List Int) (k m : Int) : Int := if m < 2 ∨ d = [] then 0 else d.getD (k % d.length).toNat 0 % m
def sp_l_cell (C : GCtx) : Sp := fun vs H Q _ => ∃ (s : List Int) (k : Int), 0 ≤ k ∧ Fn C [cv s, cv k] (fun c => ∃ r : Int, c = cv r) vs H Q
theorem sp_l_cell_len {C : GCtx} {vs H Q E} (h : sp_l_cell C vs H Q E) : vs.length = 2 := by obtain ⟨_, _, _, h⟩ := h; exact h.len
def sp_l_pick (C : GCtx) : Sp := fun vs H Q _ => ∃ (d : List Int) (k m : Int), Fn C [cv d, cv k, cv m] (fun c => c = cv (pick d k m)) vs H Q
theorem sp_l_pick_len {C : GCtx} {vs H Q E} (h : sp_l_pick C vs H Q E) : vs.length = 3 := by obtain ⟨_, _, _, h⟩ := h; exact h.len
def sp_l_draws (C : GCtx) : Sp := fun vs H Q _ => ∃ (c m : Int), 0 ≤ m ∧ m ≤ 1000 ∧ Fn C [cv c, cv m] (fun c => ∃ r : List Int, c = co r) vs H Q
theorem sp_l_draws_len {C : GCtx} {vs H Q E} (h : sp_l_draws C vs H Q E) : vs.length = 2 := by obtain ⟨_, _, _, _, h⟩ := h; exact h.len
theorem spw_pick {d : List Int} {k m : Int} {kx : Int → Prop} (h : kx (pick d k m)) : SpW C (sp_l_pick C) [cv d, cv k, cv m] (fun c => ∃ r, c = .val dInt r ∧ kx r) := fun _ _ _ _ f => ⟨d, k, m, f.mono fun _ e => ⟨_, e, h⟩⟩
theorem pick_range {d : List Int} {k m : Int} (h : 1 ≤ m) : 0 ≤ pick d k m ∧ pick d k m < m := by
  unfold pick
  split
  · omega
  · exact ⟨Int.emod_nonneg _ (by omega), Int.emod_lt_of_pos _ (by omega)⟩
theorem spw_cell {s : List Int} {k : Int} {kx : Int → Prop} (hk : 0 ≤ k) (h : ∀ r, kx r) : SpW C (sp_l_cell C) [cv s, cv k] (fun c => ∃ r, c = .val dInt r ∧ kx r) := fun _ _ _ _ f => ⟨s, k, hk, f.mono fun _ ⟨r, e⟩ => ⟨r, e, h r⟩⟩
theorem spw_draws {c m : Int} {kx : List Int → Prop} (h0 : 0 ≤ m) (h1 : m ≤ 1000) (h : ∀ r, kx r) : SpW C (sp_l_draws C) [cv c, cv m] (fun c => ∃ r, c = .own dList oList none r ∧ kx r) := fun _ _ _ _ f => ⟨c, m, h0, h1, f.mono fun _ ⟨r, e⟩ => ⟨r, e, h r⟩⟩
end
section
variable {C : GCtx}
abbrev cdeep (x : List (List Int)) : Cell := .own dList (oDeep (oList (d := dInt))) none x
def sp_p_grouped (C : GCtx) : Sp := fun vs H Q _ => ∃ (p : Sq Int) (t : Sq (Int × Int)), p.l.Nodup ∧ p.l.length ≤ 1000 ∧ t.l.length ≤ 1000 ∧ Fn C [cv p, cv t] (fun c => c = cdeep (groupsOf p.l t.l)) vs H Q
theorem sp_p_grouped_len {C : GCtx} {vs H Q E} (h : sp_p_grouped C vs H Q E) : vs.length = 2 := by obtain ⟨_, _, _, _, _, h⟩ := h; exact h.len
theorem spw_grouped {p : Sq Int} {t : Sq (Int × Int)} {kx : List (List Int) → Prop} (h1 : p.l.Nodup) (h2 : p.l.length ≤ 1000) (h3 : t.l.length ≤ 1000) (h : kx (groupsOf p.l t.l)) : SpW C (sp_p_grouped C) [cv p, cv t] (fun c => ∃ r, c = .own dList (oDeep oList) none r ∧ kx r) := fun _ _ _ _ f => ⟨p, t, h1, h2, h3, f.mono fun _ e => ⟨_, e, h⟩⟩
end
section
variable {C : GCtx}
def sp_l_points (C : GCtx) : Sp := fun vs H Q _ => ∃ (d : List Int) (m : Int), 0 ≤ m ∧ m ≤ 1000 ∧ Fn C [cv d, cv m] (fun c => ∃ r : List Int, c = co r ∧ r.Nodup ∧ (r.length : Int) ≤ m) vs H Q
theorem sp_l_points_len {C : GCtx} {vs H Q E} (h : sp_l_points C vs H Q E) : vs.length = 2 := by obtain ⟨_, _, _, _, h⟩ := h; exact h.len
def sp_l_end (C : GCtx) : Sp := fun vs H Q _ => ∃ (d : List Int) (k : Int) (p : List Int), Fn C [cv d, cv k, cv p] (fun c => ∃ r : Int, c = cv r) vs H Q
theorem sp_l_end_len {C : GCtx} {vs H Q E} (h : sp_l_end C vs H Q E) : vs.length = 3 := by obtain ⟨_, _, _, h⟩ := h; exact h.len
def sp_l_removed (C : GCtx) : Sp := fun vs H Q _ => ∃ (d p : List Int), p.length ≤ 1000 ∧ Fn C [cv d, cv p] (fun c => ∃ r : List Int, c = co r) vs H Q
theorem sp_l_removed_len {C : GCtx} {vs H Q E} (h : sp_l_removed C vs H Q E) : vs.length = 2 := by obtain ⟨_, _, _, h⟩ := h; exact h.len
def sp_l_groups (C : GCtx) : Sp := fun vs H Q _ => ∃ (p : List Int) (ts : List (Int × Int)), p.Nodup ∧ p.length ≤ 1000 ∧ Fn C [cv p, cv ts] (fun c => c = co (groupsOf p ts)) vs H Q
theorem sp_l_groups_len {C : GCtx} {vs H Q E} (h : sp_l_groups C vs H Q E) : vs.length = 2 := by obtain ⟨_, _, _, _, h⟩ := h; exact h.len
def sp_l_odd (C : GCtx) : Sp := fun vs H Q _ => ∃ (p : List Int) (ts : List (Int × Int)), p.Nodup ∧ p.length ≤ 1000 ∧ Fn C [cv p, cv ts] (fun c => c = co (oddOf p ts)) vs H Q
theorem sp_l_odd_len {C : GCtx} {vs H Q E} (h : sp_l_odd C vs H Q E) : vs.length = 2 := by obtain ⟨_, _, _, _, h⟩ := h; exact h.len
def sp_p_odd_pieces (C : GCtx) : Sp := fun vs H Q _ => ∃ (p : List Int) (ts : List (Int × Int)), p.Nodup ∧ p.length ≤ 1000 ∧ ts.length ≤ 1000 ∧ Fn C [cv p, cv ts] (fun c => c = cdeep (oddOf p ts)) vs H Q
theorem sp_p_odd_pieces_len {C : GCtx} {vs H Q E} (h : sp_p_odd_pieces C vs H Q E) : vs.length = 2 := by obtain ⟨_, _, _, _, _, h⟩ := h; exact h.len
def sp_l_same (C : GCtx) : Sp := fun vs H Q _ => ∃ (x : List (List Int)), x.length ≤ 1000 ∧ Fn C [cv x, cv x] (fun c => c = cv true) vs H Q
theorem sp_l_same_len {C : GCtx} {vs H Q E} (h : sp_l_same C vs H Q E) : vs.length = 2 := by obtain ⟨_, _, h⟩ := h; exact h.len
noncomputable def barsOf (p : List Int) (ts : List (Int × Int)) (rm : List Int) : Bool := decide ((rm.length : Int) < (oddOf (p.filter fun x => !decide (x ∈ rm)) ts).length)
def sp_p_bars (C : GCtx) : Sp := fun vs H Q _ => ∃ (p : List Int) (ts : List (Int × Int)) (rm : List Int), p.Nodup ∧ p.length ≤ 1000 ∧ ts.length ≤ 1000 ∧ Fn C [cv p, cv ts, cv rm] (fun c => c = cv (barsOf p ts rm)) vs H Q
theorem sp_p_bars_len {C : GCtx} {vs H Q E} (h : sp_p_bars C vs H Q E) : vs.length = 3 := by obtain ⟨_, _, _, _, _, _, h⟩ := h; exact h.len
def sp_l_bars (C : GCtx) : Sp := fun vs H Q _ => ∃ (p : List Int) (ts : List (Int × Int)) (rm : List Int), p.Nodup ∧ p.length ≤ 1000 ∧ ts.length ≤ 1000 ∧ Fn C [cv p, cv ts, cv rm] (fun c => c = cv true) vs H Q
theorem sp_l_bars_len {C : GCtx} {vs H Q E} (h : sp_l_bars C vs H Q E) : vs.length = 3 := by obtain ⟨_, _, _, _, _, _, h⟩ := h; exact h.len
def sp_law (C : GCtx) : Sp := fun vs H Q _ => ∃ (s : List Int), s.length ≤ 63 ∧ Fn C [cv s] (fun c => c = cv true) vs H Q
theorem sp_law_len {C : GCtx} {vs H Q E} (h : sp_law C vs H Q E) : vs.length = 1 := by obtain ⟨_, _, h⟩ := h; exact h.len
theorem law_in {K : PySem.W.Frag} {P : Program} {w : World} {H : Hp} {a : Addr} {ns : List Int} (hl : ns.length ≤ 63) (hS : SqL K H a (ns.map V.int)) : sp_law ⟨P, w, K⟩ [.ref a] H (fun v _ => v = .bl true) fun _ _ _ => False := ⟨ns, hl, Fn.script hS⟩
theorem spw_points {d : List Int} {m : Int} {kx : List Int → Prop} (h0 : 0 ≤ m) (h1 : m ≤ 1000) (h : ∀ r : List Int, r.Nodup → (r.length : Int) ≤ m → kx r) : SpW C (sp_l_points C) [cv d, cv m] (fun c => ∃ r, c = .own dList oList none r ∧ kx r) := fun _ _ _ _ f => ⟨d, m, h0, h1, f.mono fun _ ⟨r, e, h1, h2⟩ => ⟨r, e, h r h1 h2⟩⟩
theorem spw_end {d p : List Int} {k : Int} {kx : Int → Prop} (h : ∀ r, kx r) : SpW C (sp_l_end C) [cv d, cv k, cv p] (fun c => ∃ r, c = .val dInt r ∧ kx r) := fun _ _ _ _ f => ⟨d, k, p, f.mono fun _ ⟨r, e⟩ => ⟨r, e, h r⟩⟩
theorem spw_removed {d p : List Int} {kx : List Int → Prop} (h1 : p.length ≤ 1000) (h : ∀ r : List Int, kx r) : SpW C (sp_l_removed C) [cv d, cv p] (fun c => ∃ r, c = .own dList oList none r ∧ kx r) := fun _ _ _ _ f => ⟨d, p, h1, f.mono fun _ ⟨r, e⟩ => ⟨r, e, h r⟩⟩
theorem spw_groups {p : List Int} {ts : List (Int × Int)} {kx : List (List Int) → Prop} (h1 : p.Nodup) (h2 : p.length ≤ 1000) (h : kx (groupsOf p ts)) : SpW C (sp_l_groups C) [cv p, cv ts] (fun c => ∃ r, c = .own dList oList none r ∧ kx r) := fun _ _ _ _ f => ⟨p, ts, h1, h2, f.mono fun _ e => ⟨_, e, h⟩⟩
theorem spw_odd {p : List Int} {ts : List (Int × Int)} {kx : List (List Int) → Prop} (h1 : p.Nodup) (h2 : p.length ≤ 1000) (h : kx (oddOf p ts)) : SpW C (sp_l_odd C) [cv p, cv ts] (fun c => ∃ r, c = .own dList oList none r ∧ kx r) := fun _ _ _ _ f => ⟨p, ts, h1, h2, f.mono fun _ e => ⟨_, e, h⟩⟩
theorem spw_oddp {p : List Int} {ts : List (Int × Int)} {kx : List (List Int) → Prop} (h1 : p.Nodup) (h2 : p.length ≤ 1000) (h3 : ts.length ≤ 1000) (h : kx (oddOf p ts)) : SpW C (sp_p_odd_pieces C) [cv p, cv ts] (fun c => ∃ r, c = .own dList (oDeep oList) none r ∧ kx r) := fun _ _ _ _ f => ⟨p, ts, h1, h2, h3, f.mono fun _ e => ⟨_, e, h⟩⟩
theorem spw_same {x : List (List Int)} {kx : Bool → Prop} (h1 : x.length ≤ 1000) (h : kx true) : SpW C (sp_l_same C) [cv x, cv x] (fun c => ∃ r, c = .val dBool r ∧ kx r) := fun _ _ _ _ f => ⟨x, h1, f.mono fun _ e => ⟨_, e, h⟩⟩
theorem spw_bars {p rm : List Int} {ts : List (Int × Int)} {kx : Bool → Prop} (h1 : p.Nodup) (h2 : p.length ≤ 1000) (h3 : ts.length ≤ 1000) (h : kx (barsOf p ts rm)) : SpW C (sp_p_bars C) [cv p, cv ts, cv rm] (fun c => ∃ r, c = .val dBool r ∧ kx r) := fun _ _ _ _ f => ⟨p, ts, rm, h1, h2, h3, f.mono fun _ e => ⟨_, e, h⟩⟩
theorem spw_lbars {p rm : List Int} {ts : List (Int × Int)} {kx : Bool → Prop} (h1 : p.Nodup) (h2 : p.length ≤ 1000) (h3 : ts.length ≤ 1000) (h : kx true) : SpW C (sp_l_bars C) [cv p, cv ts, cv rm] (fun c => ∃ r, c = .val dBool r ∧ kx r) := fun _ _ _ _ f => ⟨p, ts, rm, h1, h2, h3, f.mono fun _ e => ⟨_, e, h⟩⟩
theorem odd_len {p : List Int} {ts : List (Int × Int)} (h1 : p.Nodup) (h2 : p.length ≤ 1000) : (oddOf p ts).length ≤ 1000 := by
  have a : (oddOf p ts).length ≤ (groupsOf p ts).length := List.length_filter_le _ _
  have b := groups_len (ties := ts) h1
  omega
end
local macro_rules | `(tactic| walk_at "rv") => `(tactic| first | refine r_var rfl ?_ | refine r_varO rfl ?_)
local macro_rules | `(tactic| walk_at "R") => `(tactic| first
  | ((with_reducible show R _ (tVar _) _ _ _); walk_at "rv")
  | with_reducible refine r_of_w ?_)
local macro_rules | `(tactic| walk_at "Wc") => `(tactic| first
  | with_reducible refine w_int ?_
  | with_reducible refine w_bl ?_
  | with_reducible refine w_str ?_
  | with_reducible refine w_non ?_)
local macro_rules | `(tactic| walk_at "Wop") => `(tactic| first
  | with_reducible refine w_add ?_
  | with_reducible refine w_sub ?_
  | with_reducible refine w_mul ?_
  | with_reducible refine w_mod ?_
  | with_reducible refine w_fdiv ?_
  | with_reducible refine w_pow ?_
  | with_reducible refine w_lt ?_
  | with_reducible refine w_le ?_
  | with_reducible refine w_gt ?_
  | with_reducible refine w_ge ?_
  | with_reducible refine w_eqI ?_
  | with_reducible refine w_neI ?_)
local macro_rules | `(tactic| walk_at "Wcb") => `(tactic| first
  | with_reducible refine w_abs ?_
  | with_reducible refine w_int1 ?_
  | with_reducible refine w_min2 ?_
  | with_reducible refine w_max2 ?_
  | refine w_len (r_var rfl ?_)
  | refine w_len (r_varO rfl ?_)
  | refine w_lenT (r_var rfl ?_)
  | refine w_lenQ (r_var rfl ?_))
local macro_rules | `(tactic| walk_at "W") => `(tactic| first
  | ((with_reducible show W _ (tVar _) _ _ _); refine w_var rfl ?_)
  | ((with_reducible show W _ (tC _) _ _ _); walk_at "Wc")
  | ((with_reducible show W _ (tOp _ _ _) _ _ _); walk_at "Wop")
  | ((with_reducible show W _ (tCB _ _) _ _ _); walk_at "Wcb")
  | with_reducible refine w_neg ?_
  | with_reducible refine w_callB ?_)
local macro_rules | `(tactic| walk_at "RA") => `(tactic| first
  | with_reducible refine ra_nil ?_
  | refine ra_cons (r_var rfl ?_)
  | refine ra_cons (r_varO rfl ?_)
  | refine ra_cons (d := dInt) ?_)
local macro_rules | `(tactic| walk_at "S") => `(tactic| first | refine spw_pick ?_ | refine spw_cell (by omega) fun r => ?_)
local macro_rules | `(tactic| walk_at "T") => `(tactic| first
  | with_reducible refine t_test ?_
  | with_reducible refine t_B ?_
  | with_reducible refine t_not ?_)
local macro_rules | `(tactic| walk_at "c") => `(tactic| ((with_reducible show _ ∧ _); refine ⟨?_, ?_⟩; (first | omega | exact .inr (by decide) | exact .inl (by decide) | exact ⟨by decide, by decide⟩ | exact ⟨by omega, by omega⟩ | exact ⟨by decide, by decide, by decide⟩ | decide)))
local macro_rules | `(tactic| walk_at "w") => `(tactic| first
  | ((with_reducible show R _ _ _ _ _); walk_at "R")
  | ((with_reducible show W _ _ _ _ _); walk_at "W")
  | ((with_reducible show T _ _ _ _); walk_at "T")
  | ((with_reducible show RA _ _ _ _); walk_at "RA")
  | ((with_reducible show SpW _ _ _ _); walk_at "S")
  | walk_at "c")
local macro_rules | `(tactic| walk_at "g") => `(tactic| repeat walk_at "w")

set_option maxHeartbeats 4000000 in
theorem ok_l_cell {P : Program} {w : World} {K : PySem.W.Frag} {mg : Str → Option Value} {base : Heap} (T : Txt K mg) : FnOk P w K mg base CX0 1 T.a_l_cell T.f_l_cell ["_law_script", "_law_k"] (sp_l_cell ⟨P, w, K⟩) := by
  have nd := sc_l_cell.nd
  refine T.F_l_cell.ok sc_l_cell (fun vs H Q E h => ?_) (fun cdv A outer s H vs Q E hr h => ?_)
  · exact sp_l_cell_len h
  have hu := hu_of hr
  refine ⟨_, (pss_cons (ps_if (pt_cmpR op_lt (pv 1) (pe_callB (len_K K) (by rfl) T.b_len (by decide +kernel) (pa_cons (pv 0) pa_nil)) (nomark _))
        (pss_one (ps_ret (pe_ix (ix_lK K) (pv 0) (pv 1) (fun _ _ => rfl))))
        pss_nil)
      (pss_one (ps_ret pe_int))), ?_⟩
  try dsimp only [cxOf]
  obtain ⟨d, k, hk, h⟩ := h
  refine h.body ?_
  refine z_seq ?_
  refine z_if' (t_test (r_of_w (w_lt (r_var rfl (r_of_w (w_len (r_var rfl rfl))))))) (fun hb => ?_) (fun hb => ?_)
  · simp at hb
    exact z_ret (w_ix (w_var rfl (r_var rfl (ix_int hk hb ⟨_, rfl⟩))))
  · refine z_next ?_; exact (z_ret (w_int ⟨_, rfl⟩))

set_option maxHeartbeats 4000000 in
theorem ok_l_draws {P : Program} {w : World} {K : PySem.W.Frag} {mg : Str → Option Value} {base : Heap} (T : Txt K mg) : FnOk P w K mg base CX0 1 T.a_l_draws T.f_l_draws ["_law_cell_here", "_law_many"] (sp_l_draws ⟨P, w, K⟩) := by
  have nd := sc_l_draws.nd
  refine T.F_l_draws.ok sc_l_draws (fun vs H Q E h => ?_) (fun cdv A outer s H vs Q E hr h => ?_)
  · exact sp_l_draws_len h
  have hu := hu_of hr
  refine ⟨_, (pss_cons (ps_set (i := 2) nd rfl (Or.inl rfl) (pe_callB call_abs (by rfl) T.b_abs (by decide +kernel) (pa_cons (pe_callTy call_int1 (by rfl) T.b_int (by decide +kernel) (pa_cons (pv 0) pa_nil)) pa_nil)))
      (pss_cons (ps_set (i := 3) nd rfl (Or.inl rfl) (pe_cmpR op_ge (pv 2) (pe_op op_pow pe_int pe_int) (nomark _)))
      (pss_cons (ps_set (i := 4) nd rfl (Or.inl rfl) (pe_op op_add (pe_op op_mod (pe_callTy call_int1 (by rfl) T.b_int (by decide +kernel) (pa_cons (pv 2) pa_nil)) pe_int) pe_int))
      (pss_cons (ps_set (i := 5) nd rfl (Or.inl rfl) (pe_lst pa_nil))
      (pss_cons (ps_for PassesOwn.never rfl (pi_range1 (by rfl) T.b_range (pa_cons (pv 1) pa_nil)) (pg_name (i := 6) nd rfl (Or.inl rfl))
        (pss_cons (ps_set (i := 4) nd rfl (Or.inl rfl) (pe_op op_mod (pe_callTy call_int1 (by rfl) T.b_int (by decide +kernel) (pa_cons (pe_op op_add (pe_op op_add (pe_op op_mul (pv 4) pe_int) (pe_op op_mul pe_int (pv 6))) pe_int) pa_nil)) pe_int))
      (pss_one (ps_if (PW.pt (pw_and (pt_val (pv 3)) (pw_and1 (pt_cmpR op_gt (pv 2) pe_int (nomark _)))))
        (pss_cons (ps_expr (bm_K K PySem.F.plainAttrs_list PySem.F.slot_list_append PySem.F.type_list_append mt_append (pv 5) (pa_cons (pe_op op_mod (pe_callTy call_int1 (by rfl) T.b_int (by decide +kernel) (pa_cons (pv 2) pa_nil)) pe_int) pa_nil)))
      (pss_one (ps_set (i := 2) nd rfl (Or.inl rfl) (pe_op op_fdiv (pv 2) pe_int))))
        (pss_one (ps_expr (bm_K K PySem.F.plainAttrs_list PySem.F.slot_list_append PySem.F.type_list_append mt_append (pv 5) (pa_cons (pe_op op_mod (pe_op op_fdiv (pv 4) pe_int) pe_int) pa_nil))))))))
      (pss_one (ps_ret (pv 5)))))))), ?_⟩
  try dsimp only [cxOf]
  obtain ⟨c, m, hm, hm2, h⟩ := h
  refine h.body ?_
  refine z_seq ?_; refine (z_set (d := dInt) rfl ?_)
  walk_at "g"
  refine z_seq ?_; refine (z_set (d := dBool) rfl ?_)
  walk_at "g"
  refine z_seq ?_; refine (z_set (d := dInt) rfl ?_)
  walk_at "g"
  refine z_seq ?_; refine (z_setO rfl (o_nil (d := dInt) ?_))
  refine z_seq ?_; refine (z_range (r_var rfl ⟨by omega, by omega, ?_⟩))
  refine ⟨fun i Γ => ∃ (rest mixed : Int) (exact' : Bool) (ds : List Int) (kk : Cell), ds.length ≤ i ∧ Γ = [cv c, cv m, cv rest, cv exact', cv mixed, co ds, kk], ⟨_, _, _, [], _, Nat.le_refl _, rfl⟩, fun i x Γ' hx => ?_, ?_⟩
  · rintro ⟨rest, mixed, ex, ds, kk, hl, rfl⟩
    have hi : i < m.toNat := by unfold rng at hx; split at hx; assumption; cases hx
    have hlt : ds.length < sizeLine := small1k (by omega)
    refine a_name rfl ?_
    refine z_seq ?_; refine (z_set (d := dInt) rfl ?_)
    walk_at "g"
    refine z_if' (t_and' (t_B (r_var rfl rfl)) fun _ => t_test (by walk_at "g"; exact rfl)) (fun hb => ?_) (fun hb => ?_)
    · refine z_seq ?_; refine (z_append rfl ?_)
      walk_at "g"
      refine (z_set (d := dInt) rfl ?_)
      walk_at "g"
      exact ⟨_, _, _, _, _, by simp; omega, rfl⟩
    · refine z_append rfl ?_
      walk_at "g"
      exact ⟨_, _, _, _, _, by simp; omega, rfl⟩
  · rintro Γ' ⟨rest, mixed, ex, ds, kk, hl, rfl⟩
    exact z_retV rfl ⟨_, rfl⟩

set_option maxHeartbeats 4000000 in
theorem ok_l_pick {P : Program} {w : World} {K : PySem.W.Frag} {mg : Str → Option Value} {base : Heap} (T : Txt K mg) : FnOk P w K mg base CX0 1 T.a_l_pick T.f_l_pick ["_law_draws_here", "_law_k", "_law_many"] (sp_l_pick ⟨P, w, K⟩) := by
  have nd := sc_l_pick.nd
  refine T.F_l_pick.ok sc_l_pick (fun vs H Q E h => ?_) (fun cdv A outer s H vs Q E hr h => ?_)
  · exact sp_l_pick_len h
  have hu := hu_of hr
  refine ⟨_, (pss_cons (ps_if (PW.pt (pw_or (pt_cmpR op_lt (pv 2) pe_int (nomark _)) (pw_or1 (pt_cmpR op_eq (pe_callB (len_K K) (by rfl) T.b_len (by decide +kernel) (pa_cons (pv 0) pa_nil)) pe_int (nomark _)))))
        (pss_one (ps_ret pe_int))
        pss_nil)
      (pss_one (ps_ret (pe_op op_mod (pe_callTy call_int1 (by rfl) T.b_int (by decide +kernel) (pa_cons (pe_ix (ix_lK K) (pv 0) (pe_op op_mod (pe_callTy call_int1 (by rfl) T.b_int (by decide +kernel) (pa_cons (pv 1) pa_nil)) (pe_callB (len_K K) (by rfl) T.b_len (by decide +kernel) (pa_cons (pv 0) pa_nil))) (fun _ _ => rfl)) pa_nil)) (pv 2))))), ?_⟩
  try dsimp only [cxOf]
  obtain ⟨d, k, m, h⟩ := h
  refine h.body ?_
  refine z_seq ?_
  refine z_if' (t_or' (t_test (r_of_w (w_lt (r_var rfl (r_of_w (w_int rfl)))))) fun _ => t_test (r_of_w (w_eqI (r_of_w (w_len (r_var rfl (r_of_w (w_int rfl)))))))) (fun hb => ?_) (fun hb => ?_)
  · refine z_ret (w_int ?_)
    simp at hb
    unfold pick
    rw [if_pos hb]
  · refine z_next ?_
    simp at hb
    have h2 : d.length ≠ 0 := fun z => hb.2 (List.length_eq_zero_iff.mp z)
    have h0 : 0 ≤ k % (d.length : Int) := Int.emod_nonneg _ (by omega)
    have h1 : k % (d.length : Int) < d.length := Int.emod_lt_of_pos _ (by omega)
    refine z_ret (w_mod ?_)
    refine r_of_w (w_int1 (r_of_w (w_ix (w_var rfl ?_))))
    refine r_of_w (w_mod (r_of_w (w_int1 (r_var rfl (r_of_w (w_len (r_var rfl ⟨by omega, ix_int h0 h1 (r_var rfl ⟨by omega, ?_⟩)⟩)))))))
    unfold pick
    rw [if_neg (fun z => z.elim (fun z => absurd z (by omega)) hb.2)]

set_option maxHeartbeats 4000000 in
theorem ok_l_points {P : Program} {w : World} {K : PySem.W.Frag} {mg : Str → Option Value} {base : Heap} (T : Txt K mg) (G_l_pick : FnOk P w K mg base CX0 1 T.a_l_pick T.f_l_pick ["_law_draws_here", "_law_k", "_law_many"] (sp_l_pick ⟨P, w, K⟩)) : FnOk P w K mg base CX0 2 T.a_l_points T.f_l_points ["_law_draws_here", "_law_most"] (sp_l_points ⟨P, w, K⟩) := by
  have nd := sc_l_points.nd
  refine T.F_l_points.ok sc_l_points (fun vs H Q E h => ?_) (fun cdv A outer s H vs Q E hr h => ?_)
  · exact sp_l_points_len h
  have hu := hu_of hr
  refine ⟨_, (pss_cons (ps_set (i := 2) nd rfl (Or.inl rfl) (pe_lst pa_nil))
      (pss_cons (ps_for PassesOwn.never rfl (pi_range1 (by rfl) T.b_range (pa_cons (pe_call G_l_pick (hr.mono (by decide)) (by rfl) T.g_l_pick T.F_l_pick.kp T.d_l_pick .nil pass0 (pa_cons (pv 0) (pa_cons pe_int (pa_cons (pe_op op_add (pv 1) pe_int) pa_nil)))) pa_nil)) (pg_name (i := 3) nd rfl (Or.inl rfl))
        (pss_cons (ps_set (i := 4) nd rfl (Or.inl rfl) (pe_op op_add (pe_op op_mul pe_int (pe_call G_l_pick (hr.mono (by decide)) (by rfl) T.g_l_pick T.F_l_pick.kp T.d_l_pick .nil pass0 (pa_cons (pv 0) (pa_cons (pe_op op_add pe_int (pe_op op_mul pe_int (pv 3))) (pa_cons pe_int pa_nil))))) (pe_call G_l_pick (hr.mono (by decide)) (by rfl) T.g_l_pick T.F_l_pick.kp T.d_l_pick .nil pass0 (pa_cons (pv 0) (pa_cons (pe_op op_add pe_int (pe_op op_mul pe_int (pv 3))) (pa_cons pe_int pa_nil))))))
      (pss_one (ps_if (pt_cmpR (op_niK K) (pv 4) (pv 2) (by with_unfolding_all rfl))
        (pss_one (ps_expr (bm_K K PySem.F.plainAttrs_list PySem.F.slot_list_append PySem.F.type_list_append mt_append (pv 2) (pa_cons (pv 4) pa_nil))))
        pss_nil))))
      (pss_one (ps_ret (pv 2))))), ?_⟩
  try dsimp only [cxOf]
  obtain ⟨d, m, hm0, hm1, h⟩ := h
  refine h.body ?_
  refine z_seq ?_; refine (z_setO rfl (o_nil (d := dInt) ?_))
  refine z_seq ?_
  refine z_range ?_
  walk_at "g"
  have hp := pick_range (d := d) (k := 0) (m := m + 1) (by omega)
  refine ⟨by omega, by omega, fun i Γ => ∃ (pts : List Int) (c2 c3 : Cell), pts.Nodup ∧ pts.length ≤ i ∧ Γ = [cv d, cv m, co pts, c2, c3], ⟨[], _, _, by simp, Nat.le_refl _, rfl⟩, fun i x Γ' hx => ?_, ?_⟩
  · rintro ⟨pts, c2, c3, hn, hl, rfl⟩
    obtain ⟨hi, rfl⟩ := rng_some hx
    have hlt : pts.length < sizeLine := small1k (by omega)
    refine a_name rfl ?_
    refine z_seq ?_; refine (z_set (d := dInt) rfl ?_)
    walk_at "g"
    refine z_if' (t_test (r_of_w (w_notin (r_var rfl (r_varO rfl rfl))))) (fun hb => ?_) (fun hb => ?_)
    · refine z_append rfl ?_
      walk_at "g"
      exact ⟨_, _, _, nodup_snoc hn (nd_of hb), by simp; omega, rfl⟩
    · refine z_next ⟨_, _, _, hn, by omega, rfl⟩
  · rintro Γ' ⟨pts, c2, c3, hn, hl, rfl⟩
    exact z_retV rfl ⟨_, rfl, hn, by omega⟩

set_option maxHeartbeats 4000000 in
theorem ok_l_end {P : Program} {w : World} {K : PySem.W.Frag} {mg : Str → Option Value} {base : Heap} (T : Txt K mg) (G_l_pick : FnOk P w K mg base CX0 1 T.a_l_pick T.f_l_pick ["_law_draws_here", "_law_k", "_law_many"] (sp_l_pick ⟨P, w, K⟩)) : FnOk P w K mg base CX0 2 T.a_l_end T.f_l_end ["_law_draws_here", "_law_k", "_law_points_here"] (sp_l_end ⟨P, w, K⟩) := by
  have nd := sc_l_end.nd
  refine T.F_l_end.ok sc_l_end (fun vs H Q E h => ?_) (fun cdv A outer s H vs Q E hr h => ?_)
  · exact sp_l_end_len h
  have hu := hu_of hr
  refine ⟨_, (pss_cons (ps_if (PW.pt (pw_or (pt_cmpR op_eq (pe_callB (len_K K) (by rfl) T.b_len (by decide +kernel) (pa_cons (pv 2) pa_nil)) pe_int (nomark _)) (pw_or1 (pt_cmpR op_eq (pe_call G_l_pick (hr.mono (by decide)) (by rfl) T.g_l_pick T.F_l_pick.kp T.d_l_pick .nil pass0 (pa_cons (pv 0) (pa_cons (pv 1) (pa_cons pe_int pa_nil)))) pe_int (nomark _)))))
        (pss_one (ps_ret (pe_op op_add pe_int (pe_call G_l_pick (hr.mono (by decide)) (by rfl) T.g_l_pick T.F_l_pick.kp T.d_l_pick .nil pass0 (pa_cons (pv 0) (pa_cons (pe_op op_add (pv 1) pe_int) (pa_cons pe_int pa_nil)))))))
        pss_nil)
      (pss_one (ps_ret (pe_ix (ix_lK K) (pv 2) (pe_call G_l_pick (hr.mono (by decide)) (by rfl) T.g_l_pick T.F_l_pick.kp T.d_l_pick .nil pass0 (pa_cons (pv 0) (pa_cons (pe_op op_add (pv 1) pe_int) (pa_cons (pe_callB (len_K K) (by rfl) T.b_len (by decide +kernel) (pa_cons (pv 2) pa_nil)) pa_nil)))) (fun _ _ => rfl))))), ?_⟩
  try dsimp only [cxOf]
  obtain ⟨d, k, p, h⟩ := h
  refine h.body ?_
  refine z_seq ?_
  refine z_if' (t_or' (t_test (by walk_at "g"; exact rfl)) fun _ => t_test (by walk_at "g"; exact rfl)) (fun hb => ?_) (fun hb => ?_)
  · refine z_ret (d := dInt) ?_
    walk_at "g"
    exact ⟨_, rfl⟩
  · refine z_next ?_
    simp at hb
    have h2 : p.length ≠ 0 := fun z => hb.1 (List.length_eq_zero_iff.mp z)
    have hp := pick_range (d := d) (k := k + 1) (m := (p.length : Int)) (by omega)
    refine z_ret (w_ix (w_var rfl ?_))
    walk_at "g"
    exact ix_int hp.1 hp.2 ⟨_, rfl⟩

set_option maxHeartbeats 4000000 in
theorem ok_l_removed {P : Program} {w : World} {K : PySem.W.Frag} {mg : Str → Option Value} {base : Heap} (T : Txt K mg) (G_l_pick : FnOk P w K mg base CX0 1 T.a_l_pick T.f_l_pick ["_law_draws_here", "_law_k", "_law_many"] (sp_l_pick ⟨P, w, K⟩)) : FnOk P w K mg base CX0 2 T.a_l_removed T.f_l_removed ["_law_draws_here", "_law_points_here"] (sp_l_removed ⟨P, w, K⟩) := by
  have nd := sc_l_removed.nd
  refine T.F_l_removed.ok sc_l_removed (fun vs H Q E h => ?_) (fun cdv A outer s H vs Q E hr h => ?_)
  · exact sp_l_removed_len h
  have hu := hu_of hr
  refine ⟨_, (pss_cons (ps_set (i := 2) nd rfl (Or.inl rfl) (pe_callTy (list_K K) (by rfl) T.b_list (by decide +kernel) (pa_cons (pv 1) pa_nil)))
      (pss_cons (ps_set (i := 3) nd rfl (Or.inl rfl) (pe_lst pa_nil))
      (pss_cons (ps_for PassesOwn.never rfl (pi_range1 (by rfl) T.b_range (pa_cons (pe_call G_l_pick (hr.mono (by decide)) (by rfl) T.g_l_pick T.F_l_pick.kp T.d_l_pick .nil pass0 (pa_cons (pv 0) (pa_cons pe_int (pa_cons (pe_op op_add (pe_callB (len_K K) (by rfl) T.b_len (by decide +kernel) (pa_cons (pv 1) pa_nil)) pe_int) pa_nil)))) pa_nil)) (pg_name (i := 4) nd rfl (Or.inl rfl))
        (pss_one (ps_expr (bm_K K PySem.F.plainAttrs_list PySem.F.slot_list_append PySem.F.type_list_append mt_append (pv 3) (pa_cons (bm_K K PySem.F.plainAttrs_list PySem.F.slot_list_pop PySem.F.type_list_pop mt_popAt (pv 2) (pa_cons (pe_call G_l_pick (hr.mono (by decide)) (by rfl) T.g_l_pick T.F_l_pick.kp T.d_l_pick .nil pass0 (pa_cons (pv 0) (pa_cons (pe_op op_add pe_int (pv 4)) (pa_cons (pe_callB (len_K K) (by rfl) T.b_len (by decide +kernel) (pa_cons (pv 2) pa_nil)) pa_nil)))) pa_nil)) pa_nil)))))
      (pss_one (ps_ret (pv 3)))))), ?_⟩
  try dsimp only [cxOf]
  obtain ⟨d, p, hp, h⟩ := h
  refine h.body ?_
  refine z_seq ?_; refine z_setO rfl (o_listOf (w_var rfl ?_))
  refine z_seq ?_; refine (z_setO rfl (o_nil (d := dInt) ?_))
  refine z_seq ?_
  refine z_range ?_
  walk_at "g"
  have hq := pick_range (d := d) (k := 0) (m := (p.length : Int) + 1) (by omega)
  refine ⟨by omega, by omega, fun i Γ => ∃ (pool rm : List Int) (c4 : Cell), pool.length + i = p.length ∧ rm.length = i ∧ Γ = [cv d, cv p, co pool, co rm, c4], ⟨_, _, _, rfl, rfl, rfl⟩, fun i x Γ' hx => ?_, ?_⟩
  · rintro ⟨pool, rm, c4, h1, h2, rfl⟩
    obtain ⟨hi, rfl⟩ := rng_some hx
    refine a_name rfl ?_
    have hr := pick_range (d := d) (k := 1 + (0 + (i : Int))) (m := (pool.length : Int)) (by omega)
    refine z_appendPop (by decide) rfl rfl ?_
    walk_at "g"
    have hj : (pick d (1 + (0 + (i : Int))) (pool.length : Int)).toNat < pool.length := by omega
    refine ⟨(pick d (1 + (0 + (i : Int))) (pool.length : Int)).toNat, pool[(pick d (1 + (0 + (i : Int))) (pool.length : Int)).toNat], ⟨hr.1, by omega, ?_, by simp [hj]⟩, small1k (by omega), _, _, _, ?_, ?_, rfl⟩
    · have hneg : ¬ (pick d (1 + (0 + (i : Int))) (pool.length : Int) < 0) := by omega
      unfold seqIndex?
      simp only [if_neg hneg]
      rw [if_pos (by rw [Bool.and_eq_true]; exact ⟨decide_eq_true hr.1, decide_eq_true hr.2⟩)]
    · rw [List.length_eraseIdx]
      rw [if_pos hj]
      omega
    · simp; omega
  · rintro Γ' ⟨pool, rm, c4, h1, h2, rfl⟩
    exact z_retV rfl ⟨_, rfl⟩

set_option maxHeartbeats 4000000 in
theorem ok_l_groups {P : Program} {w : World} {K : PySem.W.Frag} {mg : Str → Option Value} {base : Heap} (T : Txt K mg) : FnOk P w K mg base CX0 1 T.a_l_groups T.f_l_groups ["_law_points_here", "_law_ties"] (sp_l_groups ⟨P, w, K⟩) := by
  have nd := sc_l_groups.nd
  refine T.F_l_groups.ok sc_l_groups (fun vs H Q E h => ?_) (fun cdv A outer s H vs Q E hr h => ?_)
  · exact sp_l_groups_len h
  have hu := hu_of hr
  refine ⟨_, (pss_cons (ps_set (i := 2) nd rfl (Or.inr rfl) pe_dnewK)
      (pss_cons (ps_for PassesOwn.never rfl (pi_lK K (pv 0)) (pg_name (i := 3) nd rfl (Or.inr rfl))
        (pss_one (ps_dput hu (pv 2) (pv 3) (pv 3) rfl)))
      (pss_cons (ps_for PassesOwn.never rfl (pi_range1 (by rfl) T.b_range (pa_cons (pe_callB (len_K K) (by rfl) T.b_len (by decide +kernel) (pa_cons (pv 0) pa_nil)) pa_nil)) (pg_name (i := 4) nd rfl (Or.inl rfl))
        (pss_one (ps_for PassesOwn.never rfl (pi_lK K (pv 1)) (pg_tup (by rfl) (pgs_cons (pg_name (i := 5) nd rfl (Or.inl rfl)) (pgs_cons (pg_name (i := 6) nd rfl (Or.inl rfl)) pgs_nil)))
        (pss_one (ps_if (PW.pt (pw_and (pt_cmp (pc_din hu (pv 5) (pv 2))) (pw_and1 (pt_cmp (pc_din hu (pv 6) (pv 2))))))
        (pss_cons (ps_set (i := 7) nd rfl (Or.inl rfl) (pe_callB (call_min2 rfl) (by rfl) T.b_min (by decide +kernel) (pa_cons (pe_dget hu (pv 2) (pv 5) (fun _ _ => rfl)) (pa_cons (pe_dget hu (pv 2) (pv 6) (fun _ _ => rfl)) pa_nil))))
      (pss_cons (ps_dput hu (pv 2) (pv 5) (pv 7) rfl)
      (pss_one (ps_dput hu (pv 2) (pv 6) (pv 7) rfl))))
        pss_nil)))))
      (pss_cons (ps_set (i := 8) nd rfl (Or.inl rfl) (pe_lst pa_nil))
      (pss_cons (ps_for PassesOwn.never rfl (pi_lK K (pe_callB (sortedI_K K) (by rfl) T.b_sorted (by decide +kernel) (pa_cons (pv 0) pa_nil))) (pg_name (i := 3) nd rfl (Or.inr rfl))
        (pss_one (ps_if (pt_cmpR op_eq (pe_dget hu (pv 2) (pv 3) (fun _ _ => rfl)) (pv 3) (nomark _))
        (pss_one (ps_expr (bm_K K PySem.F.plainAttrs_list PySem.F.slot_list_append PySem.F.type_list_append mt_append (pv 8) (pa_cons (pe_lc (own := [("_law_other", 6)]) (by rfl) nd (pi_lK K (pe_callB (sortedI_K K) (by rfl) T.b_sorted (by decide +kernel) (pa_cons (pv 0) pa_nil))) (blkOk_by (own := [("_law_other", 6)]) (N := N_l_groups) (sc := defScope s_l_groups) (by decide +kernel)) (fun _ _ _ _ _ => (pg_name (i := 6) nd rfl (Or.inl rfl))) (fun _ _ _ _ _ => (pts_one (pt_cmpR op_eq (pe_dget hu (pv 2) (pv 6) (fun _ _ => rfl)) (pv 3) (nomark _)))) (fun _ _ _ _ _ => (pv 6))) pa_nil))))
        pss_nil)))
      (pss_one (ps_ret (pv 8)))))))), ?_⟩
  try dsimp only [cxOf]
  obtain ⟨p, ts, hn, hp, h⟩ := h
  refine h.body ?_
  have hsz : ∀ n : Nat, n ≤ 10000 → n < sizeLine := fun n hn => small1k (by omega)
  refine z_seq ?_; refine z_setO rfl (o_dict0 (d := dInt) ?_)
  -- each point its own label
  refine z_seq ?_
  refine z_for (w_var rfl ?_)
  refine ⟨fun i Γ => ∃ (kv : List (Int × Int)) (c3 : Cell), (∀ k, (kv.lookup k).isSome = true ↔ k ∈ p.take i) ∧ (∀ x y, kv.lookup x = some y → y = x) ∧ kv.length ≤ i ∧ Γ = [cv p, cv ts, .own dDI oDI none (DI.mk kv), c3, .no, .no, .no, .no, .no], ⟨[], _, fun k => by simp, fun x y e => (by simp at e), Nat.le_refl _, rfl⟩, fun i x Γ' hx => ?_, ?_⟩
  · rintro ⟨kv, c3, h1, h2, h3, rfl⟩
    have hx' : p[i]? = some x := hx
    have hlt : i < p.length := (List.getElem?_eq_some_iff.mp hx').1
    have htk : p.take (i + 1) = p.take i ++ [x] := by rw [List.take_add_one, hx']; rfl
    refine a_name rfl ?_
    refine z_dput rfl (w_var rfl (r_var rfl ⟨hsz _ (by show kv.length ≤ 10000; omega), ?_⟩))
    refine ⟨putI kv x x, _, fun k => ?_, fun y z e => ?_, ?_, rfl⟩
    · rw [lookup_putI, htk, List.mem_append, List.mem_singleton]
      by_cases e : k = x
      · rw [if_pos e]; simp [e]
      · rw [if_neg e, h1 k]; simp [e]
    · rw [lookup_putI] at e
      by_cases e2 : y = x
      · rw [if_pos e2] at e
        cases e
        exact e2.symm
      · rw [if_neg e2] at e
        exact h2 y z e
    · have := putI_len kv x x
      omega
  rintro Γ' ⟨kv, c3, h1, h2, h3, rfl⟩
  rw [show p.take p.length = p from List.take_length] at h1
  have h0 : LabOk p ts kv := ⟨h1, fun x y e => by
    have hy := h2 x y e
    subst hy
    exact ⟨by omega, (h1 y).mp (by rw [e]; rfl), .refl _⟩⟩
  -- the rounds
  refine z_seq ?_
  refine z_range ?_
  walk_at "g"
  refine ⟨fun i Γ => ∃ (kv : List (Int × Int)) (c3 c4 c5 c6 c7 : Cell), LabOk p ts kv ∧ kv.length ≤ p.length ∧ (i ≤ (corr p ts kv).length ∨ p.length ≤ (corr p ts kv).length) ∧ Γ = [cv p, cv ts, .own dDI oDI none (DI.mk kv), c3, c4, c5, c6, c7, .no], ⟨_, _, _, _, _, _, h0, h3, .inl (Nat.zero_le _), rfl⟩, fun i x Γ' hx => ?_, ?_⟩
  · rintro ⟨kv0, c3, c4, c5, c6, c7, hk, hl, hc, rfl⟩
    refine a_name rfl ?_
    refine z_for (w_var rfl ?_)
    refine ⟨fun j Γ => ∃ (kv : List (Int × Int)) (c5 c6 c7 : Cell), LabOk p ts kv ∧ kv.length ≤ p.length ∧ (∀ x, Cor p ts kv0 x → Cor p ts kv x) ∧ (∀ a b, (a, b) ∈ ts.take j → a ∈ p → b ∈ p → (Cor p ts kv0 a → Cor p ts kv b) ∧ (Cor p ts kv0 b → Cor p ts kv a)) ∧ Γ = [cv p, cv ts, .own dDI oDI none (DI.mk kv), c3, cv x, c5, c6, c7, .no], ⟨_, _, _, _, hk, hl, fun _ h => h, fun a b z => (by simp at z), rfl⟩, fun j y Γ' hy => ?_, ?_⟩
    · rintro ⟨kv, c5, c6, c7, hk1, hl1, hm, hd, rfl⟩
      obtain ⟨a, b⟩ := y
      have hy' : ts[j]? = some (a, b) := hy
      have hty : ts.take (j + 1) = ts.take j ++ [(a, b)] := by rw [List.take_add_one, hy']; rfl
      have htm : (a, b) ∈ ts := List.mem_of_getElem? hy'
      refine a_pair rfl (a_name rfl (a_name rfl ?_))
      refine z_if' (t_and' (t_B (r_of_w (w_inDI (r_var rfl (r_varO rfl rfl))))) fun _ => t_B (r_of_w (w_inDI (r_var rfl (r_varO rfl rfl))))) (fun hb => ?_) (fun hb => ?_)
      · rw [Bool.and_eq_true] at hb
        have ha := (hk1.has a).mp hb.1
        have hb' := (hk1.has b).mp hb.2
        obtain ⟨la, ea⟩ := Option.isSome_iff_exists.mp hb.1
        obtain ⟨lb, eb⟩ := Option.isSome_iff_exists.mp hb.2
        obtain ⟨n1, n2, n3, n4⟩ := lab_step hk1 ha hb' htm ea eb rfl
        refine z_seq ?_; refine z_set (d := dInt) rfl (w_min2 (r_dget (r_varO rfl (r_var rfl ⟨la, ea, r_dget (r_varO rfl (r_var rfl ⟨lb, eb, ?_⟩))⟩))))
        have e1 : (putI kv a (if lb < la then lb else la)).length = kv.length := putI_has hb.1
        have e2 : (putI (putI kv a (if lb < la then lb else la)) b (if lb < la then lb else la)).length = (putI kv a (if lb < la then lb else la)).length := putI_has (by rw [lookup_putI]; split; rfl; exact hb.2)
        refine z_seq ?_; refine z_dput rfl (w_var rfl (r_var rfl ⟨hsz _ (by show kv.length ≤ 10000; omega), ?_⟩))
        refine z_dput rfl (w_var rfl (r_var rfl ⟨hsz _ (Nat.le_trans (Nat.le_of_eq e1) (by omega)), ?_⟩))
        refine ⟨_, _, _, _, n1, by rw [e2, e1]; exact hl1, fun x hx => n2 x (hm x hx), fun a' b' hmm ha1 hb1 => ?_, rfl⟩
        rw [hty] at hmm
        rcases List.mem_append.mp hmm with hmm | hmm
        · exact ⟨fun q => n2 _ ((hd a' b' hmm ha1 hb1).1 q), fun q => n2 _ ((hd a' b' hmm ha1 hb1).2 q)⟩
        · rw [List.mem_singleton] at hmm
          cases hmm
          exact ⟨fun q => n3 (hm _ q), fun q => n4 (hm _ q)⟩
      · refine z_next ⟨_, _, _, _, hk1, hl1, hm, fun a' b' hmm ha1 hb1 => ?_, rfl⟩
        rw [hty] at hmm
        rcases List.mem_append.mp hmm with hmm | hmm
        · exact hd a' b' hmm ha1 hb1
        · rw [List.mem_singleton] at hmm
          cases hmm
          rw [(hk1.has a).mpr ha1, (hk1.has b).mpr hb1] at hb
          cases hb
    · rintro Γ1 ⟨kv, c5, c6, c7, hk1, hl1, hm, hd, rfl⟩
      rw [show ts.take ts.length = ts from List.take_length] at hd
      exact ⟨_, _, _, _, _, _, hk1, hl1, lab_round hn hk hm hd hc, rfl⟩
  rintro Γ' ⟨kv, c3, c4, c5, c6, c7, hk, hl, hc, rfl⟩
  have hall : ∀ x ∈ p, Cor p ts kv x := fun x hx => lab_all hn (by simp at hc; omega) hx
  refine z_frz 2 rfl ?_
  refine z_seq ?_; refine z_setO rfl (o_nil (d := dList (d := dInt)) ?_)
  refine z_seq ?_
  refine z_for (w_of_o (od := oList) (o_sorted (r_var rfl ?_)))
  have hil : (isort p).length = p.length := (isort_perm _).length_eq
  refine ⟨fun i Γ => ∃ (c3 c6 : Cell), Γ = [cv p, cv ts, cv (DI.mk kv), c3, c4, c5, c6, c7, co ((firsts p ts ((isort p).take i)).map (compOf p ts))], ⟨_, _, rfl⟩, fun i x Γ' hx => ?_, ?_⟩
  · rintro ⟨c3, c6, rfl⟩
    have hx' : (isort p)[i]? = some x := hx
    have hlt : i < (isort p).length := (List.getElem?_eq_some_iff.mp hx').1
    have hxm : x ∈ p := mem_isort.mp (List.mem_of_getElem? hx')
    obtain ⟨y, ey⟩ := Option.isSome_iff_exists.mp ((hk.has x).mpr hxm)
    have hmin := lab_min hn hk hall hxm ey
    have hfl : (firsts p ts ((isort p).take i)).length ≤ 1000 := by
      have h1 : (firsts p ts ((isort p).take i)).length ≤ ((isort p).take i).length := List.length_filter_le _ _
      rw [List.length_take] at h1
      omega
    refine a_name rfl ?_
    refine z_if' (t_test (r_of_w (w_eqI (r_dget (r_var rfl (r_var rfl ⟨y, ey, r_var rfl rfl⟩)))))) (fun hb => ?_) (fun hb => ?_)
    · have hm := hmin.mp (d_of hb)
      refine z_append rfl (w_of_o (od := oList) (o_lc (tg_name' (by decide)) (w_of_o (od := oList) (o_sorted (r_var rfl ?_)))))
      refine compB_map (isort p) (fun z => decide (kv.lookup z = some x)) id rfl (fun _ => rfl) (by have := hsz (isort p).length (by omega); omega) (fun z hz => a_name rfl ?_) ?_
      · obtain ⟨y2, ey2⟩ := Option.isSome_iff_exists.mp ((hk.has z).mpr (mem_isort.mp hz))
        refine t_test (r_of_w (w_eqI (r_dget (r_var rfl (r_var rfl ⟨y2, ey2, r_var rfl ⟨?_, fun _ => w_var rfl rfl⟩⟩)))))
        rw [ey2]
        exact decide_eq_decide.mpr ⟨fun e => by rw [e], fun e => by cases e; rfl⟩
      rw [List.map_id, lab_group hn hk hall hxm hm]
      refine ⟨by rw [List.length_map]; exact hsz _ (by omega), cv x, c6, ?_⟩
      rw [(firsts_take i hx').1 hm, List.map_append]
      rfl
    · have hm : ¬ IsMin p ts x := fun z => d_no hb (hmin.mpr z)
      refine z_next ⟨cv x, c6, ?_⟩
      rw [(firsts_take i hx').2 hm]
      rfl
  rintro Γ' ⟨c3, c6, rfl⟩
  rw [show (isort p).take (isort p).length = isort p from List.take_length]
  exact z_retV rfl rfl

set_option maxHeartbeats 4000000 in
theorem ok_l_odd {P : Program} {w : World} {K : PySem.W.Frag} {mg : Str → Option Value} {base : Heap} (T : Txt K mg) (G_l_groups : FnOk P w K mg base CX0 1 T.a_l_groups T.f_l_groups ["_law_points_here", "_law_ties"] (sp_l_groups ⟨P, w, K⟩)) : FnOk P w K mg base CX0 2 T.a_l_odd T.f_l_odd ["_law_points_here", "_law_ties"] (sp_l_odd ⟨P, w, K⟩) := by
  have nd := sc_l_odd.nd
  refine T.F_l_odd.ok sc_l_odd (fun vs H Q E h => ?_) (fun cdv A outer s H vs Q E hr h => ?_)
  · exact sp_l_odd_len h
  have hu := hu_of hr
  refine ⟨_, (pss_one (ps_ret (pe_lc (own := [("_law_group", 2)]) (by rfl) nd (pi_lK K (pe_call G_l_groups (hr.mono (by decide)) (by rfl) T.g_l_groups T.F_l_groups.kp T.d_l_groups .nil pass0 (pa_cons (pv 0) (pa_cons (pv 1) pa_nil)))) (blkOk_by (own := [("_law_group", 2)]) (N := N_l_odd) (sc := defScope s_l_odd) (by decide +kernel)) (fun _ _ _ _ _ => (pg_name (i := 2) nd rfl (Or.inl rfl))) (fun _ _ _ _ _ => (pts_one (pt_cmpR op_eq (pe_op op_mod (pe_callB (len_K K) (by rfl) T.b_len (by decide +kernel) (pa_cons (pv 2) pa_nil)) pe_int) pe_int (nomark _)))) (fun _ _ _ _ _ => (pv 2))))), ?_⟩
  try dsimp only [cxOf]
  obtain ⟨p, ts, hn, hp, h⟩ := h
  refine h.body ?_
  have hgl := groups_len (ties := ts) hn
  have hsz : ∀ n : Nat, n ≤ 10000 → n < sizeLine := fun n hn => small1k (by omega)
  refine z_retO (od := oList (d := dList (d := dInt))) (o_lc (tg_name' (by decide)) (w_of_o (od := oList) (o_call (wa_cons (w_var rfl (wa_cons (w_var rfl (wa_nil (spw_groups hn hp ?_)))))))))
  refine compB_map (groupsOf p ts) (fun g => decide ((g.length : Int) % 2 = 1)) id rfl (fun _ => rfl) (by have := hsz (groupsOf p ts).length (by omega); omega) (fun g hg => a_name rfl ?_) ?_
  · exact t_test (r_of_w (w_eqI (r_of_w (w_mod (r_of_w (w_len (r_var rfl (r_of_w (w_int ⟨by decide, r_of_w (w_int ⟨rfl, fun _ => w_var rfl rfl⟩)⟩)))))))))
  rw [List.map_id]
  rfl

set_option maxHeartbeats 4000000 in
theorem ok_p_grouped {P : Program} {w : World} {K : PySem.W.Frag} {mg : Str → Option Value} {base : Heap} (T : Txt K mg) : FnOk P w K mg base CX0 1 T.a_p_grouped T.f_p_grouped ["points", "ties"] (sp_p_grouped ⟨P, w, K⟩) := by
  have nd := sc_p_grouped.nd
  refine T.F_p_grouped.ok sc_p_grouped (fun vs H Q E h => ?_) (fun cdv A outer s H vs Q E hr h => ?_)
  · exact sp_p_grouped_len h
  have hu := hu_of hr
  refine ⟨_, (pss_cons (ps_setDc (i := 3) (own := [("point", 2)]) (by rfl) nd rfl rfl (sw_trueD rfl rfl rfl (by decide +kernel)) (pi_qK K (pv 0)) (blkOk_by (own := [("point", 2)]) (N := N_p_grouped) (sc := defScope s_p_grouped) (by decide +kernel)) (fun _ _ _ _ _ => (pg_name (i := 2) nd rfl (Or.inl rfl))) (fun _ _ _ _ _ => pts_nil) (fun _ _ _ _ _ => (pv 2)) (fun _ _ _ _ _ => (pe_lst pa_nil)))
      (pss_cons (ps_for PassesOwn.never rfl (pi_qK K (pv 1)) (pg_tup (by rfl) (pgs_cons (pg_name (i := 4) nd rfl (Or.inl rfl)) (pgs_cons (pg_name (i := 5) nd rfl (Or.inl rfl)) pgs_nil)))
        (pss_one (ps_if (PW.pt (pw_and (pt_cmp (pc_din hu (pv 4) (pv 3))) (pw_and1 (pt_cmp (pc_din hu (pv 5) (pv 3))))))
        (pss_cons (ps_expr (bm_K K PySem.F.plainAttrs_list PySem.F.slot_list_append PySem.F.type_list_append mt_append (pe_dget hu (pv 3) (pv 4) (fun _ _ => rfl)) (pa_cons (pv 5) pa_nil)))
      (pss_one (ps_expr (bm_K K PySem.F.plainAttrs_list PySem.F.slot_list_append PySem.F.type_list_append mt_append (pe_dget hu (pv 3) (pv 5) (fun _ _ => rfl)) (pa_cons (pv 4) pa_nil)))))
        pss_nil)))
      (pss_cons (ps_set (i := 6) nd rfl (Or.inl rfl) (pe_lst pa_nil))
      (pss_cons (ps_set (i := 7) nd rfl (Or.inl rfl) (pe_callTy0 (set0_w w) (by rfl) T.b_set (by decide +kernel)))
      (pss_cons (ps_for PassesOwn.never rfl (pi_lK K (pe_callB (sortedQ_K K) (by rfl) T.b_sorted (by decide +kernel) (pa_cons (pv 0) pa_nil))) (pg_name (i := 2) nd rfl (Or.inl rfl))
        (pss_one (ps_if (pt_cmpR (snotin_w w) (pv 2) (pv 7) (by with_unfolding_all rfl))
        (pss_cons (ps_expr (sadd_w w (pv 7) (pa_cons (pv 2) pa_nil)))
      (pss_cons (ps_set (i := 8) nd rfl (Or.inl rfl) (pe_lst pa_nil))
      (pss_cons (ps_set (i := 9) nd rfl (Or.inl rfl) (pe_lst (pa_cons (pv 2) pa_nil)))
      (pss_cons (ps_while PassesOwn.never (truth_K K (pv 9) (by intro _; rfl))
        (pss_cons (ps_set (i := 10) nd rfl (Or.inl rfl) (bm0_K K PySem.F.plainAttrs_list PySem.F.slot_list_pop PySem.F.type_list_pop mt_pop (pv 9)))
      (pss_cons (ps_expr (bm_K K PySem.F.plainAttrs_list PySem.F.slot_list_append PySem.F.type_list_append mt_append (pv 8) (pa_cons (pv 10) pa_nil)))
      (pss_one (ps_for PassesOwn.never rfl (pi_lK K (pe_dget hu (pv 3) (pv 10) (fun _ _ => rfl))) (pg_name (i := 5) nd rfl (Or.inl rfl))
        (pss_one (ps_if (pt_cmpR (snotin_w w) (pv 5) (pv 7) (by with_unfolding_all rfl))
        (pss_cons (ps_expr (sadd_w w (pv 7) (pa_cons (pv 5) pa_nil)))
      (pss_one (ps_expr (bm_K K PySem.F.plainAttrs_list PySem.F.slot_list_append PySem.F.type_list_append mt_append (pv 9) (pa_cons (pv 5) pa_nil)))))
        pss_nil)))))))
      (pss_one (ps_expr (bm_K K PySem.F.plainAttrs_list PySem.F.slot_list_append PySem.F.type_list_append mt_append (pv 6) (pa_cons (pe_callB (sortedI_K K) (by rfl) T.b_sorted (by decide +kernel) (pa_cons (pv 8) pa_nil)) pa_nil))))))))
        pss_nil)))
      (pss_one (ps_ret (pv 6)))))))), ?_⟩
  try dsimp only [cxOf]
  obtain ⟨p, ts, hn, hp, ht, h⟩ := h
  refine h.body ?_
  have hsz : ∀ n : Nat, n ≤ 10000 → n < sizeLine := fun n hn => small1k (by omega)
  -- near
  refine z_seq ?_
  refine z_setO rfl (o_dcQ (od := oList (d := dInt)) (tg_name' (by decide)) (w_var rfl ?_))
  refine ⟨fun i kv => kv = (p.l.take i).map fun k => (k, []), rfl, fun i x kv hx hi => ?_, ?_⟩
  · refine a_name rfl (t_yes ⟨fun _ => ?_, fun z => by cases z⟩)
    refine w_var rfl (o_nil ?_)
    subst hi
    have hx' : p.l[i]? = some x := hx
    refine ⟨?_, ?_, ?_⟩
    · have hnot : x ∉ p.l.take i := fun z => by
        have h2 : (p.l.take (i + 1)).Nodup := List.Sublist.nodup (List.take_sublist _ _) hn
        rw [List.take_add_one, hx'] at h2
        exact (List.nodup_append.mp h2).2.2 x z x (by simp) rfl
      exact lookup_none_of fun y hy => by
        obtain ⟨k, hk, rfl⟩ := List.mem_map.mp hy
        exact fun e => hnot (by rw [← e]; exact hk)
    · rw [List.length_map, List.length_take]; exact hsz _ (by omega)
    · show _ = _
      rw [List.take_add_one, hx', List.map_append]; rfl
  rintro kv rfl
  rw [show p.l.take p.l.length = p.l from List.take_length]
  -- the ties
  refine z_seq ?_
  refine z_forQ (w_var rfl ?_)
  refine ⟨fun i Γ => ∃ (kv : List (Int × List Int)) (c4 c5 : Cell), NearOk p.l (ts.l.take i) kv ∧ Γ = [cv p, cv ts, .no, .own dDI (oDeepDI (oList (d := dInt))) none ⟨kv⟩, c4, c5, .no, .no, .no, .no, .no], ⟨_, _, _, near_start hn, rfl⟩, fun i x Γ' hx => ?_, ?_⟩
  · rintro ⟨kv, c4, c5, hk, rfl⟩
    have hx' : ts.l[i]? = some x := hx
    obtain ⟨a, b⟩ := x
    have hlt : i < ts.l.length := (List.getElem?_eq_some_iff.mp hx').1
    have htk : ts.l.take (i + 1) = ts.l.take i ++ [(a, b)] := by rw [List.take_add_one, hx']; rfl
    refine a_pair rfl (a_name rfl (a_name rfl ?_))
    refine z_if' (t_and' (t_B (r_of_w (w_inDI (r_var rfl (r_varO rfl rfl))))) fun _ => t_B (r_of_w (w_inDI (r_var rfl (r_varO rfl rfl))))) (fun hb => ?_) (fun hb => ?_)
    · rw [Bool.and_eq_true] at hb
      have ha := (hk.has a).mp hb.1
      have hb' := (hk.has b).mp hb.2
      obtain ⟨xa, ea⟩ := Option.isSome_iff_exists.mp hb.1
      obtain ⟨xb, eb⟩ : ∃ xb, (setI kv a (xa ++ [b])).lookup b = some xb := by
        rw [lookup_setI]
        by_cases hba : b = a
        · rw [if_pos hba, ea]; exact ⟨_, rfl⟩
        · rw [if_neg hba]; exact Option.isSome_iff_exists.mp hb.2
      have l1 := (hk.items a xa ea).2
      have nx := near_step hk ha hb' ea eb
      have hlt' : (ts.l.take i).length = i := by rw [List.length_take]; omega
      have l2 : xb.length ≤ 2 * i + 1 := by
        rw [lookup_setI] at eb
        by_cases hba : b = a
        · rw [if_pos hba, ea] at eb
          cases (Option.some.inj eb)
          simp only [List.length_append, List.length_singleton]
          omega
        · rw [if_neg hba] at eb
          have := (hk.items b xb eb).2
          omega
      refine z_seq ?_
      refine z_appendDI rfl (r_var rfl ⟨xa, ea, w_var rfl ⟨hsz _ (by omega), ?_⟩⟩)
      refine z_appendDI rfl (r_var rfl ⟨xb, eb, w_var rfl ⟨hsz _ (by omega), ?_⟩⟩)
      exact ⟨_, _, _, by rw [htk]; exact nx, rfl⟩
    · have nx := near_skip (a := a) (b := b) hk fun z => by
        rw [(hk.has a).mpr z.1, (hk.has b).mpr z.2] at hb
        cases hb
      exact z_next ⟨_, _, _, by rw [htk]; exact nx, rfl⟩
  rintro Γ' ⟨kv, c4, c5, hk, rfl⟩
  rw [show ts.l.take ts.l.length = ts.l from List.take_length] at hk
  refine z_frz 3 rfl ?_
  refine z_seq ?_; refine z_setO (od := oDeep (oList (d := dInt))) rfl (o_nilDeep ?_)
  refine z_seq ?_; refine z_setO rfl (o_set0 ?_)
  -- the points, ascending
  refine z_seq ?_
  refine z_for (w_of_o (o_sortedQ (r_var rfl ?_)))
  have hsl := isort_lt hn
  have hil : (isort p.l).length = p.l.length := (isort_perm _).length_eq
  refine ⟨fun i Γ => ∃ (sn : List Int) (c2 c4 c5 c8 c9 c10 : Cell), Seen p.l ts.l ((isort p.l).take i) sn ∧ Γ = [cv p, cv ts, c2, cv (DI.mk kv), c4, c5, cdeep ((firsts p.l ts.l ((isort p.l).take i)).map (compOf p.l ts.l)), co (IS.mk sn), c8, c9, c10], ⟨[], _, _, _, _, _, _, ⟨List.nodup_nil, fun x => by simp⟩, rfl⟩, fun i x Γ' hx => ?_, ?_⟩
  · rintro ⟨sn, c2, c4, c5, c8, c9, c10, hs, rfl⟩
    have hx' : (isort p.l)[i]? = some x := hx
    have hlt : i < (isort p.l).length := (List.getElem?_eq_some_iff.mp hx').1
    have htk : (isort p.l).take (i + 1) = (isort p.l).take i ++ [x] := by rw [List.take_add_one, hx']; rfl
    have hxm : x ∈ p.l := mem_isort.mp (List.mem_of_getElem? hx')
    have hfl : (firsts p.l ts.l ((isort p.l).take i)).length ≤ 1000 := by
      have h1 : (firsts p.l ts.l ((isort p.l).take i)).length ≤ ((isort p.l).take i).length := List.length_filter_le _ _
      rw [List.length_take] at h1
      omega
    refine a_name rfl ?_
    refine z_if' (t_test (r_of_w (w_notinS (r_var rfl (r_varO rfl rfl))))) (fun hb => ?_) (fun hb => ?_)
    · have hnx : x ∉ sn := nd_of hb
      have hmin := (min_iff (ties := ts.l) hn hx' hs).mpr hnx
      have d0 := hs.start hxm hnx
      have hsn : sn.length ≤ p.l.length := len_le hs.nd fun y hy => ((hs.mem y).mp hy).1
      refine z_seq ?_; refine z_sadd rfl (r_var rfl ⟨by show sn.length + 1 < 4096; omega, ?_⟩)
      rw [show isAdd ⟨sn⟩ x = ⟨sn ++ [x]⟩ from if_neg hnx]
      refine z_seq ?_; refine z_setO rfl (o_nil (d := dInt) ?_)
      refine z_seq ?_; refine z_setO rfl (o_lst (d := dInt) (wl_cons (w_var rfl (wl_nil ⟨(by show 1 ≤ sizeLine; decide), ?_⟩))))
      -- while waiting
      refine z_seq ?_
      refine z_while (fun m Γ => ∃ (sn' group waiting : List Int) (c5 c10 : Cell), Dfs p.l ts.l sn x sn' group waiting ∧ m + group.length = p.l.length + 1 ∧ Γ = [cv p, cv ts, cv x, cv (DI.mk kv), c4, c5, cdeep ((firsts p.l ts.l ((isort p.l).take i)).map (compOf p.l ts.l)), co (IS.mk sn'), co group, co waiting, c10]) ⟨p.l.length + 1, _, _, _, _, _, d0, by simp, rfl⟩ ?_
      rintro m Γ1 ⟨sn', group, waiting, c5', c10', hd, hm, rfl⟩
      refine t_truL (r_varO rfl ⟨fun hw => ?_, fun hw => ?_⟩)
      · -- member = waiting.pop()
        obtain ⟨ws, mem, rfl⟩ : ∃ ws mem, waiting = ws ++ [mem] := by
          refine ⟨waiting.dropLast, waiting.getLast (fun z => by subst z; cases hw), (List.dropLast_concat_getLast _).symm⟩
        have hml := hd.re mem (by simp)
        have hgl : (group ++ (ws ++ [mem])).length ≤ p.l.length := len_le hd.nd fun y hy => (hd.re y hy).2
        have hgl2 : group.length + 1 ≤ p.l.length := by
          simp only [List.length_append, List.length_singleton] at hgl
          omega
        refine z_seq ?_; refine z_pop rfl rfl ?_
        refine z_seq ?_; refine z_append rfl (w_var rfl ⟨hsz _ (by omega), ?_⟩)
        obtain ⟨ns, hns⟩ := Option.isSome_iff_exists.mp ((hk.has mem).mpr hml.2)
        have hn2 := hk.items mem ns hns
        -- for other in near[member]
        refine z_for (w_dget (w_var rfl (r_var rfl ⟨ns, hns, ?_⟩)))
        refine ⟨fun j Γ => ∃ (sn2 ws2 : List Int) (c5 : Cell), Dfs2 p.l ts.l sn x sn2 (group ++ [mem]) ws2 mem (ns.take j) ∧ Γ = [cv p, cv ts, cv x, cv (DI.mk kv), c4, c5, cdeep ((firsts p.l ts.l ((isort p.l).take i)).map (compOf p.l ts.l)), co (IS.mk sn2), co (group ++ [mem]), co ws2, cv mem], ⟨_, _, _, hd.take, rfl⟩, fun j y Γ2 hy => ?_, ?_⟩
        · rintro ⟨sn2, ws2, c5'', h2, rfl⟩
          have hy' : ns[j]? = some y := hy
          have hty : ns.take (j + 1) = ns.take j ++ [y] := by rw [List.take_add_one, hy']; rfl
          have ay : Adj p.l ts.l mem y := (hn2.1 y).mp (List.mem_of_getElem? hy')
          have hs2 : sn2.length ≤ p.l.length := len_le h2.sn h2.sub
          have hw2 : ws2.length ≤ p.l.length := by
            have := len_le h2.nd fun y hy => (h2.re y hy).2
            simp only [List.length_append] at this
            omega
          refine a_name rfl ?_
          refine z_if' (t_test (r_of_w (w_notinS (r_var rfl (r_varO rfl rfl))))) (fun hb2 => ?_) (fun hb2 => ?_)
          · have hny : y ∉ sn2 := nd_of hb2
            refine z_seq ?_; refine z_sadd rfl (r_var rfl ⟨by show sn2.length + 1 < 4096; omega, ?_⟩)
            rw [show isAdd ⟨sn2⟩ y = ⟨sn2 ++ [y]⟩ from if_neg hny]
            refine z_append rfl (w_var rfl ⟨hsz _ (by omega), ?_⟩)
            exact ⟨_, _, _, by rw [hty]; exact h2.push ay hny, rfl⟩
          · exact z_next ⟨_, _, _, by rw [hty]; exact h2.skip (nd_no hb2), rfl⟩
        · rintro Γ2 ⟨sn2, ws2, c5'', h2, rfl⟩
          rw [show ns.take ns.length = ns from List.take_length] at h2
          exact ⟨m - 1, by omega, _, _, _, _, _, h2.back fun z az => (hn2.1 z).mpr az, by simp only [List.length_append, List.length_singleton]; omega, rfl⟩
      · have hwe : waiting = [] := by cases waiting with | nil => rfl | cons _ _ => cases hw
        subst hwe
        have hdn := hd.done (fun a b => hs.clo a b) hnx
        have hgn : group.Nodup := by have := hd.nd; rwa [List.append_nil] at this
        refine z_appendO rfl (o_sorted (r_varO rfl ⟨by rw [List.length_map]; exact hsz _ (by omega), ?_⟩))
        rw [isort_comp hn hgn hdn]
        refine ⟨sn', cv x, c4, c5', co group, co ([] : List Int), c10', by rw [htk]; exact hs.next hnx hd, ?_⟩
        rw [(firsts_take i hx').1 hmin, List.map_append]
        rfl
    · have hxs : x ∈ sn := nd_no hb
      have hmin : ¬ IsMin p.l ts.l x := fun z => (min_iff hn hx' hs).mp z hxs
      refine z_next ⟨sn, cv x, c4, c5, c8, c9, c10, by rw [htk]; exact hs.skip hxs, ?_⟩
      rw [(firsts_take i hx').2 hmin]
      rfl
  rintro Γ' ⟨sn, c2, c4, c5, c8, c9, c10, hs, rfl⟩
  rw [show (isort p.l).take (isort p.l).length = isort p.l from List.take_length]
  exact z_retV rfl rfl

set_option maxHeartbeats 4000000 in
theorem ok_p_odd_pieces {P : Program} {w : World} {K : PySem.W.Frag} {mg : Str → Option Value} {base : Heap} (T : Txt K mg) (G_p_grouped : FnOk P w K mg base CX0 1 T.a_p_grouped T.f_p_grouped ["points", "ties"] (sp_p_grouped ⟨P, w, K⟩)) : FnOk P w K mg base CX0 2 T.a_p_odd_pieces T.f_p_odd_pieces ["points", "ties"] (sp_p_odd_pieces ⟨P, w, K⟩) := by
  have nd := sc_p_odd_pieces.nd
  refine T.F_p_odd_pieces.ok sc_p_odd_pieces (fun vs H Q E h => ?_) (fun cdv A outer s H vs Q E hr h => ?_)
  · exact sp_p_odd_pieces_len h
  have hu := hu_of hr
  refine ⟨_, (pss_one (ps_ret (pe_lc (own := [("group", 2)]) (by rfl) nd (pi_lK K (pe_call G_p_grouped (hr.mono (by decide)) (by rfl) T.g_p_grouped T.F_p_grouped.kp T.d_p_grouped .nil pass0 (pa_cons (pv 0) (pa_cons (pv 1) pa_nil)))) (blkOk_by (own := [("group", 2)]) (N := N_p_odd_pieces) (sc := defScope s_p_odd_pieces) (by decide +kernel)) (fun _ _ _ _ _ => (pg_name (i := 2) nd rfl (Or.inl rfl))) (fun _ _ _ _ _ => (pts_one (pt_cmpR op_eq (pe_op op_mod (pe_callB (len_K K) (by rfl) T.b_len (by decide +kernel) (pa_cons (pv 2) pa_nil)) pe_int) pe_int (nomark _)))) (fun _ _ _ _ _ => (pv 2))))), ?_⟩
  try dsimp only [cxOf]
  obtain ⟨p, ts, hn, hp, ht, h⟩ := h
  refine h.body ?_
  have hgl := groups_len (ties := ts) hn
  have hsz : ∀ n : Nat, n ≤ 10000 → n < sizeLine := fun n hn => small1k (by omega)
  refine z_retO (od := oDeep (oList (d := dInt))) (o_lcPick (j := 2) (by decide) rfl (fun g => decide ((g.length : Int) % 2 = 1)) (o_call (wa_cons (w_sqL (w_var rfl (wa_cons (w_sqL (w_var rfl (wa_nil (spw_grouped hn hp ht ?_))))))))))
  refine ⟨by show (groupsOf p ts).length ≤ sizeLine; have := hsz (groupsOf p ts).length (by omega); omega, fun g hg => ?_, rfl⟩
  exact t_test (r_of_w (w_eqI (r_of_w (w_mod (r_of_w (w_len (r_var rfl (r_of_w (w_int ⟨by decide, r_of_w (w_int rfl)⟩)))))))))

set_option maxHeartbeats 4000000 in
theorem ok_l_same {P : Program} {w : World} {K : PySem.W.Frag} {mg : Str → Option Value} {base : Heap} (T : Txt K mg) : FnOk P w K mg base CX0 1 T.a_l_same T.f_l_same ["_law_told", "_law_due"] (sp_l_same ⟨P, w, K⟩) := by
  have nd := sc_l_same.nd
  refine T.F_l_same.ok sc_l_same (fun vs H Q E h => ?_) (fun cdv A outer s H vs Q E hr h => ?_)
  · exact sp_l_same_len h
  have hu := hu_of hr
  refine ⟨_, (pss_cons (ps_if (PW.pt (pw_or (pt_not (pt_val (pe_callB (isi_K K) (by rfl) T.b_isinstance (by decide +kernel) (pa_cons (pv 0) (pa_cons (pe_bltn (v := .ty "list") (by rfl) T.b_list (by decide +kernel) rfl) pa_nil))))) (pw_or1 (pt_cmpR op_ne (pe_callB (len_K K) (by rfl) T.b_len (by decide +kernel) (pa_cons (pv 0) pa_nil)) (pe_callB (len_K K) (by rfl) T.b_len (by decide +kernel) (pa_cons (pv 1) pa_nil)) (nomark _)))))
        (pss_one (ps_ret pe_bl))
        pss_nil)
      (pss_cons (ps_for PassesOwn.never rfl (pi_range1 (by rfl) T.b_range (pa_cons (pe_callB (len_K K) (by rfl) T.b_len (by decide +kernel) (pa_cons (pv 1) pa_nil)) pa_nil)) (pg_name (i := 2) nd rfl (Or.inl rfl))
        (pss_cons (ps_if (PW.pt (pw_or (pt_not (pt_val (pe_callB (isi_K K) (by rfl) T.b_isinstance (by decide +kernel) (pa_cons (pe_ix (ix_lK K) (pv 0) (pv 2) (fun _ _ => rfl)) (pa_cons (pe_bltn (v := .ty "list") (by rfl) T.b_list (by decide +kernel) rfl) pa_nil))))) (pw_or1 (pt_cmpR (op_neDK K (hu64 hr)) (pe_ix (ix_lK K) (pv 0) (pv 2) (fun _ _ => rfl)) (pe_ix (ix_lK K) (pv 1) (pv 2) (fun _ _ => rfl)) (nomark _)))))
        (pss_one (ps_ret pe_bl))
        pss_nil)
      (pss_one (ps_for PassesOwn.never rfl (pi_lK K (pe_ix (ix_lK K) (pv 0) (pv 2) (fun _ _ => rfl))) (pg_name (i := 3) nd rfl (Or.inl rfl))
        (pss_one (ps_if (PW.pt (pw_or (pt_not (pt_val (pe_callB (isi_K K) (by rfl) T.b_isinstance (by decide +kernel) (pa_cons (pv 3) (pa_cons (pe_bltn (v := .ty "int") (by rfl) T.b_int (by decide +kernel) rfl) pa_nil))))) (pw_or1 (pt_val (pe_callB (isi_K K) (by rfl) T.b_isinstance (by decide +kernel) (pa_cons (pv 3) (pa_cons (pe_bltn (v := .ty "bool") (by rfl) T.b_bool (by decide +kernel) rfl) pa_nil)))))))
        (pss_one (ps_ret pe_bl))
        pss_nil))))))
      (pss_one (ps_ret pe_bl)))), ?_⟩
  try dsimp only [cxOf]
  obtain ⟨x, hx, h⟩ := h
  refine h.body ?_
  refine z_seq ?_
  refine z_if' (b := false) (t_or' (a := false) (b := false) (t_not' (a := true) (t_B (r_of_w (w_isi (b := true) (kit_ty (by decide +kernel)) (r_var rfl rfl))))) fun _ => t_test (r_of_w (w_neI (r_of_w (w_len (r_var rfl (r_of_w (w_len (r_var rfl (by simp)))))))))) (fun hb => ?_) (fun hb => ?_)
  · cases hb
  refine z_next ?_
  refine z_seq ?_
  refine z_range ?_
  walk_at "g"
  refine ⟨fun i Γ => ∃ c2 c3 : Cell, Γ = [cv x, cv x, c2, c3], ⟨_, _, rfl⟩, fun i n Γ' hn => ?_, ?_⟩
  · rintro ⟨c2, c3, rfl⟩
    obtain ⟨hi, rfl⟩ := rng_some hn
    have hi' : i < x.length := by simpa using hi
    have ei : x[i]? = some x[i] := by simp [hi']
    have ai : atI x (0 + (i : Int)) = some x[i] := atI_of (by omega) (by simpa using ei)
    generalize x[i] = y at ai
    refine a_name rfl ?_
    refine z_seq ?_
    refine z_if' (b := false) (t_or' (a := false) (b := false) (t_not' (a := true) (t_B (r_of_w (w_isi (d := dList (d := dInt)) (b := true) (kit_ty (by decide +kernel)) (r_of_w (w_ix (w_var rfl (r_var rfl ⟨y, ai, rfl⟩)))))))) fun _ => t_test (r_of_w (w_neD (d := dList (d := dInt)) (by decide) (r_of_w (w_ix (w_var rfl (r_var rfl ⟨y, ai, r_of_w (w_ix (w_var rfl (r_var rfl ⟨y, ai, by simp⟩)))⟩))))))) (fun hb => ?_) (fun hb => ?_)
    · cases hb
    refine z_next ?_
    refine z_for (w_ix (w_var rfl (r_var rfl ⟨y, ai, ?_⟩)))
    refine ⟨fun j Γ => ∃ c3 : Cell, Γ = [cv x, cv x, cv (0 + (i : Int)), c3], ⟨_, rfl⟩, fun j z Γ' hz => ?_, ?_⟩
    · rintro ⟨c3, rfl⟩
      refine a_name rfl ?_
      refine z_if' (b := false) (t_or' (a := false) (b := false) (t_not' (a := true) (t_B (r_of_w (w_isi (d := dInt) (b := true) (kit_ty (by decide +kernel)) (r_var rfl rfl))))) fun _ => t_B (r_of_w (w_isi (d := dInt) (b := false) (kit_ty (by decide +kernel)) (r_var rfl rfl)))) (fun hb => ?_) (fun hb => ?_)
      · cases hb
      · exact z_next ⟨_, rfl⟩
    · rintro Γ' ⟨c3, rfl⟩
      exact ⟨_, _, rfl⟩
  · rintro Γ' ⟨c2, c3, rfl⟩
    exact z_ret (w_bl rfl)

set_option maxHeartbeats 4000000 in
theorem ok_p_bars {P : Program} {w : World} {K : PySem.W.Frag} {mg : Str → Option Value} {base : Heap} (T : Txt K mg) (G_p_odd_pieces : FnOk P w K mg base CX0 2 T.a_p_odd_pieces T.f_p_odd_pieces ["points", "ties"] (sp_p_odd_pieces ⟨P, w, K⟩)) : FnOk P w K mg base CX0 3 T.a_p_bars T.f_p_bars ["points", "ties", "removed"] (sp_p_bars ⟨P, w, K⟩) := by
  have nd := sc_p_bars.nd
  refine T.F_p_bars.ok sc_p_bars (fun vs H Q E h => ?_) (fun cdv A outer s H vs Q E hr h => ?_)
  · exact sp_p_bars_len h
  have hu := hu_of hr
  refine ⟨_, (pss_cons (ps_setLc (i := 3) (own := [("point", 4)]) (by rfl) nd rfl rfl (sw_true rfl rfl rfl (by decide +kernel)) (pi_lK K (pv 0)) (blkOk_by (own := [("point", 4)]) (N := N_p_bars) (sc := defScope s_p_bars) (by decide +kernel)) (fun _ _ _ _ _ => (pg_name (i := 4) nd rfl (Or.inl rfl))) (fun _ _ _ _ _ => (pts_one (pt_cmpR (op_niK K) (pv 4) (pv 2) (by with_unfolding_all rfl)))) (fun _ _ _ _ _ => (pv 4)))
      (pss_one (ps_ret (pe_cmpR op_gt (pe_callB (len_K K) (by rfl) T.b_len (by decide +kernel) (pa_cons (pe_call G_p_odd_pieces (hr.mono (by decide)) (by rfl) T.g_p_odd_pieces T.F_p_odd_pieces.kp T.d_p_odd_pieces .nil pass0 (pa_cons (pv 3) (pa_cons (pv 1) pa_nil))) pa_nil)) (pe_callB (len_K K) (by rfl) T.b_len (by decide +kernel) (pa_cons (pv 2) pa_nil)) (nomark _))))), ?_⟩
  try dsimp only [cxOf]
  obtain ⟨p, ts, rm, hn, hp, ht, h⟩ := h
  refine h.body ?_
  have hsz : ∀ n : Nat, n ≤ 10000 → n < sizeLine := fun n hn => small1k (by omega)
  refine z_seq ?_; refine z_set (d := dList (d := dInt)) rfl (w_of_o (od := oList) (o_lc (tg_name' (by decide)) (w_var rfl ?_)))
  refine compB_map p (fun x => !decide (x ∈ rm)) id rfl (fun _ => rfl) (by have := hsz p.length (by omega); omega) (fun g hg => a_name rfl ?_) ?_
  · exact t_test (r_of_w (w_notin (r_var rfl (r_var rfl ⟨rfl, fun _ => w_var rfl rfl⟩))))
  rw [List.map_id]
  have hn2 : (p.filter fun x => !decide (x ∈ rm)).Nodup := List.Sublist.nodup List.filter_sublist hn
  have hl2 : (p.filter fun x => !decide (x ∈ rm)).length ≤ 1000 := Nat.le_trans (List.length_filter_le _ _) hp
  refine z_ret (w_gt (r_of_w (w_lenO (d := dList (d := dInt)) (od := oDeep (oList (d := dInt))) (o_call (wa_cons (w_var rfl (wa_cons (w_var rfl (wa_nil (spw_oddp hn2 hl2 ht ?_))))))))))
  exact r_of_w (w_len (r_var rfl rfl))

set_option maxHeartbeats 4000000 in
theorem ok_l_bars {P : Program} {w : World} {K : PySem.W.Frag} {mg : Str → Option Value} {base : Heap} (T : Txt K mg) (G_l_odd : FnOk P w K mg base CX0 2 T.a_l_odd T.f_l_odd ["_law_points_here", "_law_ties"] (sp_l_odd ⟨P, w, K⟩)) (G_p_bars : FnOk P w K mg base CX0 3 T.a_p_bars T.f_p_bars ["points", "ties", "removed"] (sp_p_bars ⟨P, w, K⟩)) : FnOk P w K mg base CX0 4 T.a_l_bars T.f_l_bars ["_law_points_here", "_law_ties", "_law_removed_here"] (sp_l_bars ⟨P, w, K⟩) := by
  have nd := sc_l_bars.nd
  refine T.F_l_bars.ok sc_l_bars (fun vs H Q E h => ?_) (fun cdv A outer s H vs Q E hr h => ?_)
  · exact sp_l_bars_len h
  have hu := hu_of hr
  refine ⟨_, (pss_cons (ps_setLc (i := 3) (own := [("_law_point", 9)]) (by rfl) nd rfl rfl (sw_true rfl rfl rfl (by decide +kernel)) (pi_lK K (pv 0)) (blkOk_by (own := [("_law_point", 9)]) (N := N_l_bars) (sc := defScope s_l_bars) (by decide +kernel)) (fun _ _ _ _ _ => (pg_name (i := 9) nd rfl (Or.inl rfl))) (fun _ _ _ _ _ => (pts_one (pt_cmpR (op_niK K) (pv 9) (pv 2) (by with_unfolding_all rfl)))) (fun _ _ _ _ _ => (pv 9)))
      (pss_cons (ps_set (i := 4) nd rfl (Or.inl rfl) (pe_cmpR op_gt (pe_callB (len_K K) (by rfl) T.b_len (by decide +kernel) (pa_cons (pe_call G_l_odd (hr.mono (by decide)) (by rfl) T.g_l_odd T.F_l_odd.kp T.d_l_odd .nil pass0 (pa_cons (pv 3) (pa_cons (pv 1) pa_nil))) pa_nil)) (pe_callB (len_K K) (by rfl) T.b_len (by decide +kernel) (pa_cons (pv 2) pa_nil)) (nomark _)))
      (pss_cons (ps_set (i := 5) nd rfl (Or.inl rfl) (pe_callTy (list_K K) (by rfl) T.b_list (by decide +kernel) (pa_cons (pv 0) pa_nil)))
      (pss_cons (ps_set (i := 6) nd rfl (Or.inl rfl) (pe_callTy (list_K K) (by rfl) T.b_list (by decide +kernel) (pa_cons (pv 1) pa_nil)))
      (pss_cons (ps_set (i := 7) nd rfl (Or.inl rfl) (pe_callTy (list_K K) (by rfl) T.b_list (by decide +kernel) (pa_cons (pv 2) pa_nil)))
      (pss_cons (ps_set (i := 8) nd rfl (Or.inl rfl) (pe_call G_p_bars (hr.mono (by decide)) (by rfl) T.g_p_bars T.F_p_bars.kp T.d_p_bars .nil pass0 (pa_cons (pv 5) (pa_cons (pv 6) (pa_cons (pv 7) pa_nil)))))
      (pss_cons (ps_if (PW.pt (pw_or (pt_cmpR (op_neDK K (hu64 hr)) (pv 5) (pv 0) (nomark _)) (pw_or (pt_cmpR (op_neDK K (hu64 hr)) (pv 6) (pv 1) (nomark _)) (pw_or1 (pt_cmpR (op_neDK K (hu64 hr)) (pv 7) (pv 2) (nomark _))))))
        (pss_one (ps_ret pe_bl))
        pss_nil)
      (pss_one (ps_ret (pe_and (pe_callB (isi_K K) (by rfl) T.b_isinstance (by decide +kernel) (pa_cons (pv 8) (pa_cons (pe_bltn (v := .ty "bool") (by rfl) T.b_bool (by decide +kernel) rfl) pa_nil))) (pe_one (pe_cmpR op_eq (pv 8) (pv 4) (nomark _))))))))))))), ?_⟩
  try dsimp only [cxOf]
  obtain ⟨p, ts, rm, hn, hp, ht, h⟩ := h
  refine h.body ?_
  have hsz : ∀ n : Nat, n ≤ 10000 → n < sizeLine := fun n hn => small1k (by omega)
  refine z_seq ?_; refine z_set (d := dList (d := dInt)) rfl (w_of_o (od := oList) (o_lc (tg_name' (by decide)) (w_var rfl ?_)))
  refine compB_map p (fun x => !decide (x ∈ rm)) id rfl (fun _ => rfl) (by have := hsz p.length (by omega); omega) (fun g hg => a_name rfl ?_) ?_
  · exact t_test (r_of_w (w_notin (r_var rfl (r_var rfl ⟨rfl, fun _ => w_var rfl rfl⟩))))
  rw [List.map_id]
  have hn2 : (p.filter fun x => !decide (x ∈ rm)).Nodup := List.Sublist.nodup List.filter_sublist hn
  have hl2 : (p.filter fun x => !decide (x ∈ rm)).length ≤ 1000 := Nat.le_trans (List.length_filter_le _ _) hp
  refine z_seq ?_; refine z_set (d := dBool) rfl (w_gt (r_of_w (w_lenO (d := dList (d := dInt)) (od := oList) (o_call (wa_cons (w_var rfl (wa_cons (w_var rfl (wa_nil (spw_odd hn2 hl2 (r_of_w (w_len (r_var rfl ?_)))))))))))))
  refine z_seq ?_; refine z_set (d := dList (d := dInt)) rfl (w_of_o (od := oList) (o_listOf (w_var rfl ?_)))
  refine z_seq ?_; refine z_set (d := dList (d := dPair (d1 := dInt) (d2 := dInt))) rfl (w_of_o (od := oList) (o_listOf (w_var rfl ?_)))
  refine z_seq ?_; refine z_set (d := dList (d := dInt)) rfl (w_of_o (od := oList) (o_listOf (w_var rfl ?_)))
  refine z_seq ?_; refine z_set (d := dBool) rfl (w_call (wa_cons (w_var rfl (wa_cons (w_var rfl (wa_cons (w_var rfl (wa_nil (spw_bars hn hp ht ?_)))))))))
  refine z_seq ?_
  refine z_if' (b := false) (t_or' (a := false) (b := false) (t_test (r_of_w (w_neD (d := dList (d := dInt)) (by decide) (r_var rfl (r_var rfl (by simp)))))) fun _ => t_or' (a := false) (b := false) (t_test (r_of_w (w_neD (d := dList (d := dPair (d1 := dInt) (d2 := dInt))) (by decide) (r_var rfl (r_var rfl (by simp)))))) fun _ => t_test (r_of_w (w_neD (d := dList (d := dInt)) (by decide) (r_var rfl (r_var rfl (by simp)))))) (fun hb => ?_) (fun hb => ?_)
  · cases hb
  refine z_next ?_
  refine z_ret (w_eq (a := true && true) (w_andV' (r_of_w (w_isi (d := dBool) (b := true) (kit_ty (by decide +kernel)) (r_var rfl rfl))) fun _ => w_eqB (r_var rfl (r_var rfl ?_))) rfl)
  exact decide_eq_true rfl

set_option maxHeartbeats 4000000 in
theorem ok_law {P : Program} {w : World} {K : PySem.W.Frag} {mg : Str → Option Value} {base : Heap} (T : Txt K mg) (G_l_cell : FnOk P w K mg base CX0 1 T.a_l_cell T.f_l_cell ["_law_script", "_law_k"] (sp_l_cell ⟨P, w, K⟩)) (G_l_draws : FnOk P w K mg base CX0 1 T.a_l_draws T.f_l_draws ["_law_cell_here", "_law_many"] (sp_l_draws ⟨P, w, K⟩)) (G_l_points : FnOk P w K mg base CX0 2 T.a_l_points T.f_l_points ["_law_draws_here", "_law_most"] (sp_l_points ⟨P, w, K⟩)) (G_l_pick : FnOk P w K mg base CX0 1 T.a_l_pick T.f_l_pick ["_law_draws_here", "_law_k", "_law_many"] (sp_l_pick ⟨P, w, K⟩)) (G_l_end : FnOk P w K mg base CX0 2 T.a_l_end T.f_l_end ["_law_draws_here", "_law_k", "_law_points_here"] (sp_l_end ⟨P, w, K⟩)) (G_l_removed : FnOk P w K mg base CX0 2 T.a_l_removed T.f_l_removed ["_law_draws_here", "_law_points_here"] (sp_l_removed ⟨P, w, K⟩)) (G_l_odd : FnOk P w K mg base CX0 2 T.a_l_odd T.f_l_odd ["_law_points_here", "_law_ties"] (sp_l_odd ⟨P, w, K⟩)) (G_p_odd_pieces : FnOk P w K mg base CX0 2 T.a_p_odd_pieces T.f_p_odd_pieces ["points", "ties"] (sp_p_odd_pieces ⟨P, w, K⟩)) (G_l_same : FnOk P w K mg base CX0 1 T.a_l_same T.f_l_same ["_law_told", "_law_due"] (sp_l_same ⟨P, w, K⟩)) (G_l_bars : FnOk P w K mg base CX0 4 T.a_l_bars T.f_l_bars ["_law_points_here", "_law_ties", "_law_removed_here"] (sp_l_bars ⟨P, w, K⟩)) : FnOk P w K mg base CX0 5 T.a_law T.f_law ["_law_script"] (sp_law ⟨P, w, K⟩) := by
  have nd := sc_law.nd
  refine T.F_law.ok sc_law (fun vs H Q E h => ?_) (fun cdv A outer s H vs Q E hr h => ?_)
  · exact sp_law_len h
  have hu := hu_of hr
  refine ⟨_, (pss_cons (ps_set (i := 1) nd rfl (Or.inl rfl) (pe_call G_l_points (hr.mono (by decide)) (by rfl) T.g_l_points T.F_l_points.kp T.d_l_points .nil pass0 (pa_cons (pe_call G_l_draws (hr.mono (by decide)) (by rfl) T.g_l_draws T.F_l_draws.kp T.d_l_draws .nil pass0 (pa_cons (pe_call G_l_cell (hr.mono (by decide)) (by rfl) T.g_l_cell T.F_l_cell.kp T.d_l_cell .nil pass0 (pa_cons (pv 0) (pa_cons pe_int pa_nil))) (pa_cons pe_int pa_nil))) (pa_cons pe_int pa_nil))))
      (pss_cons (ps_set (i := 2) nd rfl (Or.inl rfl) (pe_call G_l_draws (hr.mono (by decide)) (by rfl) T.g_l_draws T.F_l_draws.kp T.d_l_draws .nil pass0 (pa_cons (pe_call G_l_cell (hr.mono (by decide)) (by rfl) T.g_l_cell T.F_l_cell.kp T.d_l_cell .nil pass0 (pa_cons (pv 0) (pa_cons pe_int pa_nil))) (pa_cons pe_int pa_nil))))
      (pss_cons (ps_set (i := 3) nd rfl (Or.inl rfl) (pe_lst pa_nil))
      (pss_cons (ps_for PassesOwn.never rfl (pi_range1 (by rfl) T.b_range (pa_cons (pe_call G_l_pick (hr.mono (by decide)) (by rfl) T.g_l_pick T.F_l_pick.kp T.d_l_pick .nil pass0 (pa_cons (pv 2) (pa_cons pe_int (pa_cons pe_int pa_nil)))) pa_nil)) (pg_name (i := 4) nd rfl (Or.inl rfl))
        (pss_one (ps_expr (bm_K K PySem.F.plainAttrs_list PySem.F.slot_list_append PySem.F.type_list_append mt_append (pv 3) (pa_cons (pe_tup (pa_cons (pe_call G_l_end (hr.mono (by decide)) (by rfl) T.g_l_end T.F_l_end.kp T.d_l_end .nil pass0 (pa_cons (pv 2) (pa_cons (pe_op op_add pe_int (pe_op op_mul pe_int (pv 4))) (pa_cons (pv 1) pa_nil)))) (pa_cons (pe_call G_l_end (hr.mono (by decide)) (by rfl) T.g_l_end T.F_l_end.kp T.d_l_end .nil pass0 (pa_cons (pv 2) (pa_cons (pe_op op_add pe_int (pe_op op_mul pe_int (pv 4))) (pa_cons (pv 1) pa_nil)))) pa_nil))) pa_nil)))))
      (pss_cons (ps_set (i := 5) nd rfl (Or.inl rfl) (pe_call G_l_removed (hr.mono (by decide)) (by rfl) T.g_l_removed T.F_l_removed.kp T.d_l_removed .nil pass0 (pa_cons (pe_call G_l_draws (hr.mono (by decide)) (by rfl) T.g_l_draws T.F_l_draws.kp T.d_l_draws .nil pass0 (pa_cons (pe_call G_l_cell (hr.mono (by decide)) (by rfl) T.g_l_cell T.F_l_cell.kp T.d_l_cell .nil pass0 (pa_cons (pv 0) (pa_cons pe_int pa_nil))) (pa_cons pe_int pa_nil))) (pa_cons (pv 1) pa_nil))))
      (pss_cons (ps_set (i := 6) nd rfl (Or.inl rfl) (pe_call G_l_odd (hr.mono (by decide)) (by rfl) T.g_l_odd T.F_l_odd.kp T.d_l_odd .nil pass0 (pa_cons (pv 1) (pa_cons (pv 3) pa_nil))))
      (pss_cons (ps_set (i := 7) nd rfl (Or.inl rfl) (pe_callTy (list_K K) (by rfl) T.b_list (by decide +kernel) (pa_cons (pv 1) pa_nil)))
      (pss_cons (ps_set (i := 8) nd rfl (Or.inl rfl) (pe_callTy (list_K K) (by rfl) T.b_list (by decide +kernel) (pa_cons (pv 3) pa_nil)))
      (pss_cons (ps_set (i := 9) nd rfl (Or.inl rfl) (pe_call G_p_odd_pieces (hr.mono (by decide)) (by rfl) T.g_p_odd_pieces T.F_p_odd_pieces.kp T.d_p_odd_pieces .nil pass0 (pa_cons (pv 7) (pa_cons (pv 8) pa_nil))))
      (pss_cons (ps_if (PW.pt (pw_or (pt_cmpR (op_neDK K (hu64 hr)) (pv 7) (pv 1) (nomark _)) (pw_or (pt_cmpR (op_neDK K (hu64 hr)) (pv 8) (pv 3) (nomark _)) (pw_or1 (pt_not (pt_val (pe_call G_l_same (hr.mono (by decide)) (by rfl) T.g_l_same T.F_l_same.kp T.d_l_same .nil pass0 (pa_cons (pv 9) (pa_cons (pv 6) pa_nil)))))))))
        (pss_one (ps_ret pe_bl))
        pss_nil)
      (pss_cons (ps_for PassesOwn.never rfl (pi_lK K (pv 9)) (pg_name (i := 10) nd rfl (Or.inl rfl))
        (pss_one (ps_expr (bm_K K PySem.F.plainAttrs_list PySem.F.slot_list_append PySem.F.type_list_append mt_append (pv 10) (pa_cons pe_int pa_nil)))))
      (pss_cons (ps_expr (bm_K K PySem.F.plainAttrs_list PySem.F.slot_list_append PySem.F.type_list_append mt_append (pv 9) (pa_cons (pe_lst (pa_cons pe_int pa_nil)) pa_nil)))
      (pss_cons (ps_if (pt_not (pt_val (pe_call G_l_same (hr.mono (by decide)) (by rfl) T.g_l_same T.F_l_same.kp T.d_l_same .nil pass0 (pa_cons (pe_call G_p_odd_pieces (hr.mono (by decide)) (by rfl) T.g_p_odd_pieces T.F_p_odd_pieces.kp T.d_p_odd_pieces .nil pass0 (pa_cons (pe_callTy (list_K K) (by rfl) T.b_list (by decide +kernel) (pa_cons (pv 1) pa_nil)) (pa_cons (pe_callTy (list_K K) (by rfl) T.b_list (by decide +kernel) (pa_cons (pv 3) pa_nil)) pa_nil))) (pa_cons (pv 6) pa_nil)))))
        (pss_one (ps_ret pe_bl))
        pss_nil)
      (pss_cons (ps_for PassesOwn.never rfl (pi_lK K (pe_lst (pa_cons (pv 5) (pa_cons (pe_lst pa_nil) (pa_cons (pv 1) (pa_cons (pe_slice (sl_lK K) (pv 5) po_none (po_some (pe_un un_neg pe_int))) pa_nil)))))) (pg_name (i := 11) nd rfl (Or.inl rfl))
        (pss_one (ps_if (pt_not (pt_val (pe_call G_l_bars (hr.mono (by decide)) (by rfl) T.g_l_bars T.F_l_bars.kp T.d_l_bars .nil pass0 (pa_cons (pv 1) (pa_cons (pv 3) (pa_cons (pe_callTy (list_K K) (by rfl) T.b_list (by decide +kernel) (pa_cons (pv 11) pa_nil)) pa_nil))))))
        (pss_one (ps_ret pe_bl))
        pss_nil)))
      (pss_one (ps_ret pe_bl)))))))))))))))), ?_⟩
  try dsimp only [cxOf]
  obtain ⟨s, hs, h⟩ := h
  refine h.body ?_
  have hsz : ∀ n : Nat, n ≤ 10000 → n < sizeLine := fun n hn => small1k (by omega)
  -- points
  refine z_seq ?_; refine z_set (d := dList (d := dInt)) rfl (w_of_o (od := oList) (o_callB ?_))
  refine ra_cons (d := dList (d := dInt)) (r_of_w (w_of_o (od := oList) (o_callB ?_)))
  walk_at "g"
  refine spw_draws (by decide) (by decide) fun d => ?_
  walk_at "g"
  refine spw_points (by decide) (by decide) fun p hn hp => ?_
  refine z_seq ?_; refine z_set (d := dList (d := dInt)) rfl (w_of_o (od := oList) (o_callB ?_))
  walk_at "g"
  refine spw_draws (by decide) (by decide) fun d2 => ?_
  -- ties
  refine z_seq ?_; refine (z_setO rfl (o_nil (d := dPair (d1 := dInt) (d2 := dInt)) ?_))
  refine z_seq ?_
  refine z_range ?_
  walk_at "g"
  have hq := pick_range (d := d2) (k := 0) (m := 15) (by decide)
  refine ⟨by omega, by omega, fun i Γ => ∃ (ts : List (Int × Int)) (c4 : Cell), ts.length ≤ i ∧ Γ = [cv s, cv p, cv d2, co ts, c4, .no, .no, .no, .no, .no, .no, .no], ⟨[], _, Nat.le_refl _, rfl⟩, fun i x Γ' hx => ?_, ?_⟩
  · rintro ⟨ts, c4, hl, rfl⟩
    obtain ⟨hi, rfl⟩ := rng_some hx
    have hlt : ts.length < sizeLine := small1k (by omega)
    refine a_name rfl ?_
    refine z_append rfl (w_tup2 ?_)
    walk_at "g"
    refine spw_end fun a => ?_
    walk_at "g"
    refine spw_end fun b => ?_
    walk_at "g"
    exact ⟨_, _, by simp; omega, rfl⟩
  rintro Γ' ⟨ts, c4, hl, rfl⟩
  have ht : ts.length ≤ 1000 := by omega
  have hp' : p.length ≤ 1000 := by omega
  refine z_frz 3 rfl ?_
  -- removed
  refine z_seq ?_; refine z_set (d := dList (d := dInt)) rfl (w_of_o (od := oList) (o_callB ?_))
  refine ra_cons (d := dList (d := dInt)) (r_of_w (w_of_o (od := oList) (o_callB ?_)))
  walk_at "g"
  refine spw_draws (by decide) (by decide) fun d3 => ?_
  walk_at "g"
  refine spw_removed hp' fun rm => ?_
  -- due
  refine z_seq ?_; refine z_set (d := dList (d := dList (d := dInt))) rfl (w_of_o (od := oList) (o_call (wa_cons (w_var rfl (wa_cons (w_var rfl (wa_nil (spw_odd hn hp' ?_))))))))
  refine z_seq ?_; refine z_set (d := dList (d := dInt)) rfl (w_of_o (od := oList) (o_listOf (w_var rfl ?_)))
  refine z_seq ?_; refine z_set (d := dList (d := dPair (d1 := dInt) (d2 := dInt))) rfl (w_of_o (od := oList) (o_listOf (w_var rfl ?_)))
  refine z_seq ?_; refine z_setO (od := oDeep (oList (d := dInt))) rfl (o_call (wa_cons (w_var rfl (wa_cons (w_var rfl (wa_nil (spw_oddp hn hp' ht ?_)))))))
  have hol := odd_len (ts := ts) hn hp'
  refine z_seq ?_
  refine z_if' (b := false) (t_or' (a := false) (b := false) (t_test (r_of_w (w_neD (d := dList (d := dInt)) (by decide) (r_var rfl (r_var rfl (by simp)))))) fun _ => t_or' (a := false) (b := false) (t_test (r_of_w (w_neD (d := dList (d := dPair (d1 := dInt) (d2 := dInt))) (by decide) (r_var rfl (r_var rfl (by simp)))))) fun _ => t_not' (a := true) (t_B (r_of_w (w_callB ?_)))) (fun hb => ?_) (fun hb => ?_)
  · exact ra_cons (d := dList (d := dList (d := dInt))) (r_varO rfl (ra_cons (r_var rfl (ra_nil (spw_same hol rfl)))))
  · cases hb
  refine z_next ?_
  -- the answer is changed
  refine z_seq ?_
  refine z_forApp (by decide) rfl rfl (fun g hg => ?_) ?_
  · have := group_len hn (List.mem_filter.mp hg).1
    exact hsz _ (by omega)
  refine z_seq ?_
  refine z_appendO rfl (o_lst (d := dInt) (wl_cons (w_int (wl_nil ⟨(by show 1 ≤ sizeLine; decide), by rw [List.length_map]; exact hsz _ (by omega), ?_⟩))))
  -- again
  refine z_seq ?_
  refine z_if' (b := false) (t_not' (a := true) (t_B (r_of_w (w_callB ?_)))) (fun hb => ?_) (fun hb => ?_)
  · refine ra_cons (d := dList (d := dList (d := dInt))) (r_of_w (w_of_o (od := oDeep oList) (o_call (wa_cons (w_of_o (od := oList) (o_listOf (w_var rfl (wa_cons (w_of_o (od := oList) (o_listOf (w_var rfl (wa_nil (spw_oddp hn hp' ht ?_)))))))))))))
    exact ra_cons (r_var rfl (ra_nil (spw_same hol rfl)))
  · cases hb
  refine z_next ?_
  -- bars
  refine z_seq ?_
  refine z_for (w_of_o (od := oList) (o_lst (d := dList (d := dInt)) (wl_cons (w_var rfl (wl_cons (w_of_o (od := oList) (o_nil (d := dInt) (wl_cons (w_var rfl (wl_cons (w_of_o (od := oList) (o_sl (w_var rfl (to_none (to_some (r_of_w (w_neg (r_of_w (w_int (wl_nil ⟨(by show 4 ≤ sizeLine; decide), ?_⟩))))))))))))))))))))
  refine ⟨fun i Γ => ∃ (c9 c10 c11 : Cell), Γ = [cv s, cv p, cv d2, cv ts, c4, cv rm, cv (oddOf p ts), cv p, cv ts, c9, c10, c11], ⟨_, _, _, rfl⟩, fun i x Γ' hx => ?_, ?_⟩
  · rintro ⟨c9, c10, c11, rfl⟩
    refine a_name rfl ?_
    refine z_if' (b := false) (t_not' (a := true) (t_B (r_of_w (w_callB ?_)))) (fun hb => ?_) (fun hb => ?_)
    · exact ra_cons (r_var rfl (ra_cons (r_var rfl (ra_cons (d := dList (d := dInt)) (r_of_w (w_of_o (od := oList) (o_listOf (w_var rfl (ra_nil (spw_lbars hn hp' ht rfl))))))))))
    · cases hb
    · exact z_next ⟨_, _, _, rfl⟩
  · rintro Γ' ⟨c9, c10, c11, rfl⟩
    exact z_ret (w_bl rfl)

theorem all_mk {l : PySem.W.OpenLaw} {w : World} {K : PySem.W.Frag} {h : Heap} {mg : Str → Option Value} {fa : Addr} (X : K.In h) (G : h.Ns mainGlobals mg) (hfa : mg "law" = some (.ref fa))
    {od0 an0 : Option Addr} {sl0 : Array (Option Value)} {oc0 kV0 dc0 pm0 cd0 ct0 : Value} {f0 : Addr}
    (a0 : PySem.W.nsIn K mainGlobals "_law_cell" = some (some (.ref f0))) (l0 : K.lookup f0 = some ⟨oc0, od0, .func (PySem.W.fnOf "_law_cell" "_law_cell" (defArgs s_l_cell) (defBody s_l_cell) (defScope s_l_cell) .none kV0 dc0 pm0 an0 cd0 ct0), sl0⟩) (c0 : PySem.W.codeIn K cd0 "_law_cell" = true) (k0 : PySem.W.keepIn K (.ref f0) = true)
    {od1 an1 : Option Addr} {sl1 : Array (Option Value)} {oc1 kV1 dc1 pm1 cd1 ct1 : Value} {f1 : Addr}
    (a1 : PySem.W.nsIn K mainGlobals "_law_draws" = some (some (.ref f1))) (l1 : K.lookup f1 = some ⟨oc1, od1, .func (PySem.W.fnOf "_law_draws" "_law_draws" (defArgs s_l_draws) (defBody s_l_draws) (defScope s_l_draws) .none kV1 dc1 pm1 an1 cd1 ct1), sl1⟩) (c1 : PySem.W.codeIn K cd1 "_law_draws" = true) (k1 : PySem.W.keepIn K (.ref f1) = true)
    {od2 an2 : Option Addr} {sl2 : Array (Option Value)} {oc2 kV2 dc2 pm2 cd2 ct2 : Value} {f2 : Addr}
    (a2 : PySem.W.nsIn K mainGlobals "_law_pick" = some (some (.ref f2))) (l2 : K.lookup f2 = some ⟨oc2, od2, .func (PySem.W.fnOf "_law_pick" "_law_pick" (defArgs s_l_pick) (defBody s_l_pick) (defScope s_l_pick) .none kV2 dc2 pm2 an2 cd2 ct2), sl2⟩) (c2 : PySem.W.codeIn K cd2 "_law_pick" = true) (k2 : PySem.W.keepIn K (.ref f2) = true)
    {od3 an3 : Option Addr} {sl3 : Array (Option Value)} {oc3 kV3 dc3 pm3 cd3 ct3 : Value} {f3 : Addr}
    (a3 : PySem.W.nsIn K mainGlobals "_law_points" = some (some (.ref f3))) (l3 : K.lookup f3 = some ⟨oc3, od3, .func (PySem.W.fnOf "_law_points" "_law_points" (defArgs s_l_points) (defBody s_l_points) (defScope s_l_points) .none kV3 dc3 pm3 an3 cd3 ct3), sl3⟩) (c3 : PySem.W.codeIn K cd3 "_law_points" = true) (k3 : PySem.W.keepIn K (.ref f3) = true)
    {od4 an4 : Option Addr} {sl4 : Array (Option Value)} {oc4 kV4 dc4 pm4 cd4 ct4 : Value} {f4 : Addr}
    (a4 : PySem.W.nsIn K mainGlobals "_law_end" = some (some (.ref f4))) (l4 : K.lookup f4 = some ⟨oc4, od4, .func (PySem.W.fnOf "_law_end" "_law_end" (defArgs s_l_end) (defBody s_l_end) (defScope s_l_end) .none kV4 dc4 pm4 an4 cd4 ct4), sl4⟩) (c4 : PySem.W.codeIn K cd4 "_law_end" = true) (k4 : PySem.W.keepIn K (.ref f4) = true)
    {od5 an5 : Option Addr} {sl5 : Array (Option Value)} {oc5 kV5 dc5 pm5 cd5 ct5 : Value} {f5 : Addr}
    (a5 : PySem.W.nsIn K mainGlobals "_law_removed" = some (some (.ref f5))) (l5 : K.lookup f5 = some ⟨oc5, od5, .func (PySem.W.fnOf "_law_removed" "_law_removed" (defArgs s_l_removed) (defBody s_l_removed) (defScope s_l_removed) .none kV5 dc5 pm5 an5 cd5 ct5), sl5⟩) (c5 : PySem.W.codeIn K cd5 "_law_removed" = true) (k5 : PySem.W.keepIn K (.ref f5) = true)
    {od6 an6 : Option Addr} {sl6 : Array (Option Value)} {oc6 kV6 dc6 pm6 cd6 ct6 : Value} {f6 : Addr}
    (a6 : PySem.W.nsIn K mainGlobals "_law_groups" = some (some (.ref f6))) (l6 : K.lookup f6 = some ⟨oc6, od6, .func (PySem.W.fnOf "_law_groups" "_law_groups" (defArgs s_l_groups) (defBody s_l_groups) (defScope s_l_groups) .none kV6 dc6 pm6 an6 cd6 ct6), sl6⟩) (c6 : PySem.W.codeIn K cd6 "_law_groups" = true) (k6 : PySem.W.keepIn K (.ref f6) = true)
    {od7 an7 : Option Addr} {sl7 : Array (Option Value)} {oc7 kV7 dc7 pm7 cd7 ct7 : Value} {f7 : Addr}
    (a7 : PySem.W.nsIn K mainGlobals "_law_odd" = some (some (.ref f7))) (l7 : K.lookup f7 = some ⟨oc7, od7, .func (PySem.W.fnOf "_law_odd" "_law_odd" (defArgs s_l_odd) (defBody s_l_odd) (defScope s_l_odd) .none kV7 dc7 pm7 an7 cd7 ct7), sl7⟩) (c7 : PySem.W.codeIn K cd7 "_law_odd" = true) (k7 : PySem.W.keepIn K (.ref f7) = true)
    {od8 an8 : Option Addr} {sl8 : Array (Option Value)} {oc8 kV8 dc8 pm8 cd8 ct8 : Value} {f8 : Addr}
    (a8 : PySem.W.nsIn K mainGlobals "grouped" = some (some (.ref f8))) (l8 : K.lookup f8 = some ⟨oc8, od8, .func (PySem.W.fnOf "grouped" "grouped" (defArgs s_p_grouped) (defBody s_p_grouped) (defScope s_p_grouped) .none kV8 dc8 pm8 an8 cd8 ct8), sl8⟩) (c8 : PySem.W.codeIn K cd8 "grouped" = true) (k8 : PySem.W.keepIn K (.ref f8) = true)
    {od9 an9 : Option Addr} {sl9 : Array (Option Value)} {oc9 kV9 dc9 pm9 cd9 ct9 : Value} {f9 : Addr}
    (a9 : PySem.W.nsIn K mainGlobals "odd_pieces" = some (some (.ref f9))) (l9 : K.lookup f9 = some ⟨oc9, od9, .func (PySem.W.fnOf "odd_pieces" "odd_pieces" (defArgs s_p_odd_pieces) (defBody s_p_odd_pieces) (defScope s_p_odd_pieces) .none kV9 dc9 pm9 an9 cd9 ct9), sl9⟩) (c9 : PySem.W.codeIn K cd9 "odd_pieces" = true) (k9 : PySem.W.keepIn K (.ref f9) = true)
    {od10 an10 : Option Addr} {sl10 : Array (Option Value)} {oc10 kV10 dc10 pm10 cd10 ct10 : Value} {f10 : Addr}
    (a10 : PySem.W.nsIn K mainGlobals "_law_same" = some (some (.ref f10))) (l10 : K.lookup f10 = some ⟨oc10, od10, .func (PySem.W.fnOf "_law_same" "_law_same" (defArgs s_l_same) (defBody s_l_same) (defScope s_l_same) .none kV10 dc10 pm10 an10 cd10 ct10), sl10⟩) (c10 : PySem.W.codeIn K cd10 "_law_same" = true) (k10 : PySem.W.keepIn K (.ref f10) = true)
    {od11 an11 : Option Addr} {sl11 : Array (Option Value)} {oc11 kV11 dc11 pm11 cd11 ct11 : Value} {f11 : Addr}
    (a11 : PySem.W.nsIn K mainGlobals "bars" = some (some (.ref f11))) (l11 : K.lookup f11 = some ⟨oc11, od11, .func (PySem.W.fnOf "bars" "bars" (defArgs s_p_bars) (defBody s_p_bars) (defScope s_p_bars) .none kV11 dc11 pm11 an11 cd11 ct11), sl11⟩) (c11 : PySem.W.codeIn K cd11 "bars" = true) (k11 : PySem.W.keepIn K (.ref f11) = true)
    {od12 an12 : Option Addr} {sl12 : Array (Option Value)} {oc12 kV12 dc12 pm12 cd12 ct12 : Value} {f12 : Addr}
    (a12 : PySem.W.nsIn K mainGlobals "_law_bars" = some (some (.ref f12))) (l12 : K.lookup f12 = some ⟨oc12, od12, .func (PySem.W.fnOf "_law_bars" "_law_bars" (defArgs s_l_bars) (defBody s_l_bars) (defScope s_l_bars) .none kV12 dc12 pm12 an12 cd12 ct12), sl12⟩) (c12 : PySem.W.codeIn K cd12 "_law_bars" = true) (k12 : PySem.W.keepIn K (.ref f12) = true)
    {od13 an13 : Option Addr} {sl13 : Array (Option Value)} {oc13 kV13 dc13 pm13 cd13 ct13 : Value} {f13 : Addr}
    (a13 : PySem.W.nsIn K mainGlobals "law" = some (some (.ref f13))) (l13 : K.lookup f13 = some ⟨oc13, od13, .func (PySem.W.fnOf "law" "law" (defArgs s_law) (defBody s_law) (defScope s_law) .none kV13 dc13 pm13 an13 cd13 ct13), sl13⟩) (c13 : PySem.W.codeIn K cd13 "law" = true) (k13 : PySem.W.keepIn K (.ref f13) = true)
    (z_abs : PySem.W.nsIn K mainGlobals "abs" = some none)
    (z_bool : PySem.W.nsIn K mainGlobals "bool" = some none)
    (z_int : PySem.W.nsIn K mainGlobals "int" = some none)
    (z_isinstance : PySem.W.nsIn K mainGlobals "isinstance" = some none)
    (z_len : PySem.W.nsIn K mainGlobals "len" = some none)
    (z_list : PySem.W.nsIn K mainGlobals "list" = some none)
    (z_min : PySem.W.nsIn K mainGlobals "min" = some none)
    (z_range : PySem.W.nsIn K mainGlobals "range" = some none)
    (z_set : PySem.W.nsIn K mainGlobals "set" = some none)
    (z_sorted : PySem.W.nsIn K mainGlobals "sorted" = some none)
    : ∃ fd : FuncData, (∀ (s : Shared) (v : Value), BindsTo s fd ⟨[v], []⟩ [("_law_script", v)]) ∧ ∀ base : Heap, K.In base → base.Ns mainGlobals mg → FnOk l.prog w K mg base CX0 5 fa fd ["_law_script"] (sp_law ⟨l.prog, w, K⟩) := by
  have e := hfa.symm.trans (PySem.W.mg_of X G a13)
  cases e
  have F0 := fun_mk (st := s_l_cell) l0 c0 k0
  have d0 := F0.binds (ps := ["_law_script", "_law_k"]) fun _ _ _ _ _ _ us hl => match us, hl with | [_, _], _ => rfl
  have F1 := fun_mk (st := s_l_draws) l1 c1 k1
  have d1 := F1.binds (ps := ["_law_cell_here", "_law_many"]) fun _ _ _ _ _ _ us hl => match us, hl with | [_, _], _ => rfl
  have F2 := fun_mk (st := s_l_pick) l2 c2 k2
  have d2 := F2.binds (ps := ["_law_draws_here", "_law_k", "_law_many"]) fun _ _ _ _ _ _ us hl => match us, hl with | [_, _, _], _ => rfl
  have F3 := fun_mk (st := s_l_points) l3 c3 k3
  have d3 := F3.binds (ps := ["_law_draws_here", "_law_most"]) fun _ _ _ _ _ _ us hl => match us, hl with | [_, _], _ => rfl
  have F4 := fun_mk (st := s_l_end) l4 c4 k4
  have d4 := F4.binds (ps := ["_law_draws_here", "_law_k", "_law_points_here"]) fun _ _ _ _ _ _ us hl => match us, hl with | [_, _, _], _ => rfl
  have F5 := fun_mk (st := s_l_removed) l5 c5 k5
  have d5 := F5.binds (ps := ["_law_draws_here", "_law_points_here"]) fun _ _ _ _ _ _ us hl => match us, hl with | [_, _], _ => rfl
  have F6 := fun_mk (st := s_l_groups) l6 c6 k6
  have d6 := F6.binds (ps := ["_law_points_here", "_law_ties"]) fun _ _ _ _ _ _ us hl => match us, hl with | [_, _], _ => rfl
  have F7 := fun_mk (st := s_l_odd) l7 c7 k7
  have d7 := F7.binds (ps := ["_law_points_here", "_law_ties"]) fun _ _ _ _ _ _ us hl => match us, hl with | [_, _], _ => rfl
  have F8 := fun_mk (st := s_p_grouped) l8 c8 k8
  have d8 := F8.binds (ps := ["points", "ties"]) fun _ _ _ _ _ _ us hl => match us, hl with | [_, _], _ => rfl
  have F9 := fun_mk (st := s_p_odd_pieces) l9 c9 k9
  have d9 := F9.binds (ps := ["points", "ties"]) fun _ _ _ _ _ _ us hl => match us, hl with | [_, _], _ => rfl
  have F10 := fun_mk (st := s_l_same) l10 c10 k10
  have d10 := F10.binds (ps := ["_law_told", "_law_due"]) fun _ _ _ _ _ _ us hl => match us, hl with | [_, _], _ => rfl
  have F11 := fun_mk (st := s_p_bars) l11 c11 k11
  have d11 := F11.binds (ps := ["points", "ties", "removed"]) fun _ _ _ _ _ _ us hl => match us, hl with | [_, _, _], _ => rfl
  have F12 := fun_mk (st := s_l_bars) l12 c12 k12
  have d12 := F12.binds (ps := ["_law_points_here", "_law_ties", "_law_removed_here"]) fun _ _ _ _ _ _ us hl => match us, hl with | [_, _, _], _ => rfl
  have F13 := fun_mk (st := s_law) l13 c13 k13
  have d13 := F13.binds (ps := ["_law_script"]) fun _ _ _ _ _ _ us hl => match us, hl with | [_], _ => rfl
  let T : Txt K mg := { b_abs := PySem.W.mg_none_of X G z_abs, b_bool := PySem.W.mg_none_of X G z_bool, b_int := PySem.W.mg_none_of X G z_int, b_isinstance := PySem.W.mg_none_of X G z_isinstance, b_len := PySem.W.mg_none_of X G z_len, b_list := PySem.W.mg_none_of X G z_list, b_min := PySem.W.mg_none_of X G z_min, b_range := PySem.W.mg_none_of X G z_range, b_set := PySem.W.mg_none_of X G z_set, b_sorted := PySem.W.mg_none_of X G z_sorted, a_l_cell := _, f_l_cell := _, F_l_cell := F0, d_l_cell := d0, g_l_cell := PySem.W.mg_of X G a0, a_l_draws := _, f_l_draws := _, F_l_draws := F1, d_l_draws := d1, g_l_draws := PySem.W.mg_of X G a1, a_l_pick := _, f_l_pick := _, F_l_pick := F2, d_l_pick := d2, g_l_pick := PySem.W.mg_of X G a2, a_l_points := _, f_l_points := _, F_l_points := F3, d_l_points := d3, g_l_points := PySem.W.mg_of X G a3, a_l_end := _, f_l_end := _, F_l_end := F4, d_l_end := d4, g_l_end := PySem.W.mg_of X G a4, a_l_removed := _, f_l_removed := _, F_l_removed := F5, d_l_removed := d5, g_l_removed := PySem.W.mg_of X G a5, a_l_groups := _, f_l_groups := _, F_l_groups := F6, d_l_groups := d6, g_l_groups := PySem.W.mg_of X G a6, a_l_odd := _, f_l_odd := _, F_l_odd := F7, d_l_odd := d7, g_l_odd := PySem.W.mg_of X G a7, a_p_grouped := _, f_p_grouped := _, F_p_grouped := F8, d_p_grouped := d8, g_p_grouped := PySem.W.mg_of X G a8, a_p_odd_pieces := _, f_p_odd_pieces := _, F_p_odd_pieces := F9, d_p_odd_pieces := d9, g_p_odd_pieces := PySem.W.mg_of X G a9, a_l_same := _, f_l_same := _, F_l_same := F10, d_l_same := d10, g_l_same := PySem.W.mg_of X G a10, a_p_bars := _, f_p_bars := _, F_p_bars := F11, d_p_bars := d11, g_p_bars := PySem.W.mg_of X G a11, a_l_bars := _, f_l_bars := _, F_l_bars := F12, d_l_bars := d12, g_l_bars := PySem.W.mg_of X G a12, a_law := _, f_law := _, F_law := F13, d_law := d13, g_law := PySem.W.mg_of X G a13 }
  refine ⟨PySem.W.fnOf "law" "law" (defArgs s_law) (defBody s_law) (defScope s_law) .none kV13 dc13 pm13 an13 cd13 ct13, fun s v => .of_eq rfl, fun base _ _ => ?_⟩
  have G_l_cell := ok_l_cell (P := l.prog) (w := w) (base := base) T
  have G_l_draws := ok_l_draws (P := l.prog) (w := w) (base := base) T
  have G_l_pick := ok_l_pick (P := l.prog) (w := w) (base := base) T
  have G_l_points := ok_l_points (P := l.prog) (w := w) (base := base) T G_l_pick
  have G_l_end := ok_l_end (P := l.prog) (w := w) (base := base) T G_l_pick
  have G_l_removed := ok_l_removed (P := l.prog) (w := w) (base := base) T G_l_pick
  have G_l_groups := ok_l_groups (P := l.prog) (w := w) (base := base) T
  have G_l_odd := ok_l_odd (P := l.prog) (w := w) (base := base) T G_l_groups
  have G_p_grouped := ok_p_grouped (P := l.prog) (w := w) (base := base) T
  have G_p_odd_pieces := ok_p_odd_pieces (P := l.prog) (w := w) (base := base) T G_p_grouped
  have G_l_same := ok_l_same (P := l.prog) (w := w) (base := base) T
  have G_p_bars := ok_p_bars (P := l.prog) (w := w) (base := base) T G_p_odd_pieces
  have G_l_bars := ok_l_bars (P := l.prog) (w := w) (base := base) T G_l_odd G_p_bars
  have G_law := ok_law (P := l.prog) (w := w) (base := base) T G_l_cell G_l_draws G_l_points G_l_pick G_l_end G_l_removed G_l_odd G_p_odd_pieces G_l_same G_l_bars
  exact G_law

end K36
open PySem PySem.W PyProof.Rows
set_option maxRecDepth 100000 in
set_option maxHeartbeats 0 in
theorem PySem.Challenge.cw_comesapart_k36_odd_pieces_and_bars_holds : PySem.Challenge.rw_comesapart_k36_odd_pieces_and_bars.Holds := by
  w_on; o_law; k_head; (case hw => w_witness2)
  k_fill
  refine L2.walk_of (l := PySem.Challenge.rw_comesapart_k36_odd_pieces_and_bars) (n := 63) (k := 5) (x := "_law_script") (CX := fun _ => L2.CX0) (sp := fun w => K36.sp_law ⟨PySem.Challenge.rw_comesapart_k36_odd_pieces_and_bars.prog, w, _⟩) rfl (by decide) rfl ⟨rfl, by decide, by decide⟩ (fun w h Y => PySem.W.kIn_of Y) ?F (fun w _ a ns hl _ hS => K36.law_in hl hS) (fun _ _ _ _ _ h => h)
  case F =>
    intro w mg fa h KX G hmg
    refine' K36.all_mk KX G hmg ?a0 ?l0 ?c0 ?k0 ?a1 ?l1 ?c1 ?k1 ?a2 ?l2 ?c2 ?k2 ?a3 ?l3 ?c3 ?k3 ?a4 ?l4 ?c4 ?k4 ?a5 ?l5 ?c5 ?k5 ?a6 ?l6 ?c6 ?k6 ?a7 ?l7 ?c7 ?k7 ?a8 ?l8 ?c8 ?k8 ?a9 ?l9 ?c9 ?k9 ?a10 ?l10 ?c10 ?k10 ?a11 ?l11 ?c11 ?k11 ?a12 ?l12 ?c12 ?k12 ?a13 ?l13 ?c13 ?k13 ?z_abs ?z_bool ?z_int ?z_isinstance ?z_len ?z_list ?z_min ?z_range ?z_set ?z_sorted
    (case a0 => k_is); (case l0 => k_is); (case c0 => k_is); (case k0 => k_is); (case a1 => k_is); (case l1 => k_is); (case c1 => k_is); (case k1 => k_is); (case a2 => k_is); (case l2 => k_is); (case c2 => k_is); (case k2 => k_is); (case a3 => k_is); (case l3 => k_is); (case c3 => k_is); (case k3 => k_is); (case a4 => k_is); (case l4 => k_is); (case c4 => k_is); (case k4 => k_is); (case a5 => k_is); (case l5 => k_is); (case c5 => k_is); (case k5 => k_is); (case a6 => k_is); (case l6 => k_is); (case c6 => k_is); (case k6 => k_is); (case a7 => k_is); (case l7 => k_is); (case c7 => k_is); (case k7 => k_is); (case a8 => k_is); (case l8 => k_is); (case c8 => k_is); (case k8 => k_is); (case a9 => k_is); (case l9 => k_is); (case c9 => k_is); (case k9 => k_is); (case a10 => k_is); (case l10 => k_is); (case c10 => k_is); (case k10 => k_is); (case a11 => k_is); (case l11 => k_is); (case c11 => k_is); (case k11 => k_is); (case a12 => k_is); (case l12 => k_is); (case c12 => k_is); (case k12 => k_is); (case a13 => k_is); (case l13 => k_is); (case c13 => k_is); (case k13 => k_is); (case z_abs => k_is); (case z_bool => k_is); (case z_int => k_is); (case z_isinstance => k_is); (case z_len => k_is); (case z_list => k_is); (case z_min => k_is); (case z_range => k_is); (case z_set => k_is); (case z_sorted => k_is)

