import PyProof.Rows.All
import Wide.All
import OpenK.AllK
import Wide.FinOn
import HandS.ForMost
import HandS.DictComp
import HandS.Strs
import HandS.IsInst
import HandS.SortInts
import KE.DataEq
import HandS.Wide
import HandS.Conv
import HandS.ExcOwn
import HandS.ExcInit
import HandS.ExcField
import HandS.ExcIs
import HandS.ExcSuper
import HandS.TryOnly
import HandS.TryMany
import HandS.Property
import HandS.ClsMeth
import HandS.OwnEq
import KE.KExcSuper
import HandS.Nested
import HandS.WordsExc
import KE.KExcIs
import KE.GoesMore
import HandS.TupAny
import HandS.Deep
import HandS.More
import HandS.SetKeys
import HandS.Star
import KE.RegKSuper
import PySem.Challenge.RW_comesapart_k27_bridges_by_definition
set_option Elab.async false
set_option linter.all false
set_option maxRecDepth 100000
section
set_option maxHeartbeats 4000000
/-! G0: rules that the layer lacks: a name takes a dict comprehension. -/
namespace L2
open PySem PySem.Spec PyProof.Rows
section
variable {X : Cx}
/-- name = {k: v for ..} on one line, the name a local -/
theorem ps_setDc {i : Nat} {y : Str} {py : Pos} {kx vx tg iter : Expr} {ifs : List Expr} {scope : Scope} {own : List (Str × Nat)} {pos spos : Pos} {wi : TI} {g : TG} {tt : TT} {tk tv : TE} (hc : X.calm = true) (hN : X.N.Nodup) (hy : X.N[i]? = some y) (hyl : X.env.scope.names.lookup y = some .local)
    (hsw : swapsWith (.DictComp kx vx [⟨tg, iter, ifs, 0⟩] scope pos) (some (.Name y py)) spos.line X.env = pure true) (hi : PI X tg iter wi) (ok : BlkOk X.N X.env.scope scope own)
    (hg : ∀ (s : Shared) (H : Hp) (C : Addr) (cl : List (Str × Addr)) (fp : List Addr), PG (X.blk s H scope (compEnvC scope cl C X.env) fp) tg g)
    (ht : ∀ (s : Shared) (H : Hp) (C : Addr) (cl : List (Str × Addr)) (fp : List Addr), PTs (X.blk s H scope (compEnvC scope cl C X.env) fp) ifs tt)
    (hk : ∀ (s : Shared) (H : Hp) (C : Addr) (cl : List (Str × Addr)) (fp : List Addr), PE (X.blk s H scope (compEnvC scope cl C X.env) fp) kx tk)
    (he : ∀ (s : Shared) (H : Hp) (C : Addr) (cl : List (Str × Addr)) (fp : List Addr), PE (X.blk s H scope (compEnvC scope cl C X.env) fp) vx tv) (hs : ∀ x, foldedSetIterable iter X.env x = pure x := by intro _; rfl) :
    PS X (.Assign [.Name y py] (.DictComp kx vx [⟨tg, iter, ifs, 0⟩] scope pos) spos) (tAsg (tDc wi g tt tk tv (own.map (·.2))) (gName i)) := by
  refine ⟨fun pins s σ H D I h => ?_⟩
  rw [exec_Assign_Name_used _ _ _ _ hsw]
  refine wpAny_bind (wpAny_standAt (wpAny_bind ?_))
  show wpAny _ X.A (do let _ ← comprehension (.DictComp kx vx [⟨tg, iter, ifs, 0⟩] scope pos) scope X.env (firstIterPos [⟨tg, iter, ifs, 0⟩] pos) newDict false (eval iter X.env) (some (assign (.Name y py) X.env))) _ _ s
  have h1 : tDc wi g tt tk tv (own.map (·.2)) σ H (fun x H1 => gName i x σ H1 D.nx) := h
  refine wpAny_bind (thn (dc_core (Qf := fun _ s' => SP X pins D .next s') hc hN I hi ok hg ht hk he hs h1 fun L C s' m H' I' q hn f => ?_) fun _ s' hq => wpAny_pure (wpAny_pure hq))
  show wpAny _ _ (assign (.Name y py) X.env (.ref L)) _ _ _
  refine wpAny_assign_Name (store_ok2 (v := V.ref L) I' hN hy (.inl hyl) rfl (fun s2 I2 ⟨a, sb, ha⟩ => ?_) (.inr hyl))
  have haC : C ≠ a := ha.elim (fun z => by rw [z]; exact f.2.1) fun z e => f.2.2.2.2.1 y a z e.symm
  exact ⟨m, hn.sameBut sb haC, fun h3 sb3 => ⟨_, H', I2.turned (t' := s2.toks) (fun b o hb e => (sb3.2 b hb).trans e) f.1 f.2.1 f.2.2.2.1 f.2.2.2.2.1 f.2.2.2.2.2, q⟩⟩
theorem sw_trueD {kx vx : Expr} {gs : List Comprehension} {scope : Scope} {pos py : Pos} {y : Str} {l : Nat} {env : Env} (hk : env.scope.kind = .function) (hy : env.scope.names.lookup y = some .local) (hl : (py.line == pos.line) = true)
    (ha : (scope.names.any fun (n, k) => n == y && (k == .local || k == .cell)) = false) : swapsWith (.DictComp kx vx gs scope pos) (some (.Name y py)) l env = pure true := by
  have hb : env.blockKind = .function := by unfold Env.blockKind; rw [hk]; rfl
  have ky : env.kindOf y = some .local := hy
  unfold swapsWith
  simp only [hb, ky, ha, Expr.pos, hl]
  rfl

/-! the same rules over a written part that bears a name (K, w): within a comprehension's block the context is another, K and w are not -/
section
variable (K : PySem.W.Frag) (w : World)
theorem op_inK (h : X.K = K := by rfl) : OpR X (compareOp .In) (rIn K false) := h ▸ op_in_seq
theorem op_niK (h : X.K = K := by rfl) : OpR X (compareOp .NotIn) (rIn K true) := h ▸ op_notIn_seq
theorem ix_lK (h : X.K = K := by rfl) : IxR X (rIxL K) := h ▸ ix_list
theorem ix_tK (h : X.K = K := by rfl) : IxR X (rIxT K) := h ▸ ix_tup
theorem ix_qK (h : X.K = K := by rfl) : IxR X (rIx K) := h ▸ ix_seq
theorem sl_lK (h : X.K = K := by rfl) : SlR X (rSlL K) := h ▸ sl_list
theorem sl_tK (h : X.K = K := by rfl) : SlR X (rSlT K) := h ▸ sl_tup
theorem len_K (h : X.K = K := by rfl) : CallR X (.builtin "len") (fun xs H Q => ∃ p ys, xs = [.ref p] ∧ (SqL K H p ys ∨ SqT K H p ys) ∧ Q (.int ys.length) H) := h ▸ call_len_seq
theorem list_K (h : X.K = K := by rfl) : CallR X (.type "list") (fun xs H Q => ∃ p ys, xs = [.ref p] ∧ (SqL K H p ys ∨ SqT K H p ys) ∧ ∀ l, H l = none → Q (.ref l) (upd H l (.lst ys))) := h ▸ call_list_of
theorem tuple_K (h : X.K = K := by rfl) : CallR X (.type "tuple") (fun xs H Q => ∃ p ys, xs = [.ref p] ∧ ((SqL K H p ys ∧ ∀ l, H l = none → Q (.ref l) (upd H l (.tup ys))) ∨ (SqT K H p ys ∧ Q (.ref p) H))) := h ▸ call_tuple_of
theorem sortedI_K (h : X.K = K := by rfl) : CallR X (.builtin "sorted") (rSortedI K) := h ▸ cr_sortedI
theorem sum_K (hc : X.calm = true) (h : X.K = K := by rfl) : CallR X (.builtin "sum") (rSum K) := h ▸ cr_sum hc
theorem max_K (hc : X.calm = true) (h : X.K = K := by rfl) : CallR X (.builtin "max") (rMax K) := h ▸ cr_max hc
theorem min_K (hc : X.calm = true) (h : X.K = K := by rfl) : CallR X (.builtin "min") (rMin K) := h ▸ cr_min hc
theorem any_K (hc : X.calm = true) (h : X.K = K := by rfl) : CallR X (.builtin "any") (rAny K) := h ▸ cr_any hc
theorem all_K (hc : X.calm = true) (h : X.K = K := by rfl) : CallR X (.builtin "all") (rAll K) := h ▸ cr_all hc
/-- data without dicts, not too deep -/
def shP (d : PyData) : Bool := d.plain && decide (d.depth ≤ 64)
def rEqP (K : PySem.W.Frag) : R2 := fun x y H Q => ∃ d e, Dp K H x d ∧ Dp K H y e ∧ shP d = true ∧ shP e = true ∧ Q (.bl (PyData.eqv d e)) H
def rNeP (K : PySem.W.Frag) : R2 := fun x y H Q => ∃ d e, Dp K H x d ∧ Dp K H y e ∧ shP d = true ∧ shP e = true ∧ Q (.bl (!PyData.eqv d e)) H
/-- x in a list or tuple of data -/
def rInP (K : PySem.W.Frag) (neg : Bool) : R2 := fun x y H Q => ∃ d ds, Dp K H x d ∧ (Dp K H y (.list ds) ∨ Dp K H y (.tuple ds)) ∧ shP d = true ∧ PyData.plainAll ds = true ∧ Q (.bl (if neg then !ds.any fun z => PyData.eqv z d else ds.any fun z => PyData.eqv z d)) H
theorem op_eqDK (hu : X.A.units + 64 < cLine) (h : X.K = K := by rfl) : OpR X (compareOp .Eq) (rEqP K) := by
  subst h
  intro pins s σ H x y v u Q I rx ry ⟨d, e, hd, he, sd, se, q⟩
  obtain ⟨as, r1⟩ := Dp.reads I d x v hd rx
  obtain ⟨bs, r2⟩ := Dp.reads I e y u he ry
  simp only [shP, Bool.and_eq_true, decide_eq_true_eq] at sd se
  exact SeqAt.eq_plain r1 r2 sd.1 se.1 (by omega) ⟨.bl _, H, I, rfl, q⟩
theorem op_neDK (hu : X.A.units + 64 < cLine) (h : X.K = K := by rfl) : OpR X (compareOp .NotEq) (rNeP K) := by
  subst h
  intro pins s σ H x y v u Q I rx ry ⟨d, e, hd, he, sd, se, q⟩
  obtain ⟨as, r1⟩ := Dp.reads I d x v hd rx
  obtain ⟨bs, r2⟩ := Dp.reads I e y u he ry
  simp only [shP, Bool.and_eq_true, decide_eq_true_eq] at sd se
  exact SeqAt.ne_plain r1 r2 sd.1 se.1 (by omega) ⟨.bl _, H, I, rfl, q⟩
theorem ind_K (hu : X.A.units + 65 < cLine) (h : X.K = K := by rfl) : OpR X (compareOp .In) (rInP K false) := by
  subst h
  intro pins s σ H x y v u Q I rx ry ⟨d, ds, hd, he, sd, se, q⟩
  obtain ⟨as, r1⟩ := Dp.reads I d x v hd rx
  simp only [shP, Bool.and_eq_true, decide_eq_true_eq] at sd
  rcases he with he | he
  · obtain ⟨bs, r2⟩ := Dp.reads I _ y u he ry
    exact SeqAt.in_list_data r2 r1 se sd.1 (by omega) ⟨.bl _, H, I, rfl, q⟩
  · obtain ⟨bs, r2⟩ := Dp.reads I _ y u he ry
    exact SeqAt.in_tuple_data r2 r1 se sd.1 (by omega) ⟨.bl _, H, I, rfl, q⟩
theorem nid_K (hu : X.A.units + 65 < cLine) (h : X.K = K := by rfl) : OpR X (compareOp .NotIn) (rInP K true) := by
  subst h
  intro pins s σ H x y v u Q I rx ry ⟨d, ds, hd, he, sd, se, q⟩
  obtain ⟨as, r1⟩ := Dp.reads I d x v hd rx
  simp only [shP, Bool.and_eq_true, decide_eq_true_eq] at sd
  rcases he with he | he
  · obtain ⟨bs, r2⟩ := Dp.reads I _ y u he ry
    exact SeqAt.notIn_list_data r2 r1 se sd.1 (by omega) ⟨.bl _, H, I, rfl, q⟩
  · obtain ⟨bs, r2⟩ := Dp.reads I _ y u he ry
    exact SeqAt.notIn_tuple_data r2 r1 se sd.1 (by omega) ⟨.bl _, H, I, rfl, q⟩
theorem isi_K (h : X.K = K := by rfl) : CallR X (.builtin "isinstance") (rIsi K) := h ▸ call_isi
theorem sin_w (h : X.w = w := by rfl) : OpR X (compareOp .In) (rSIn w) := h ▸ or_sin
theorem snotin_w (h : X.w = w := by rfl) : OpR X (compareOp .NotIn) (rSNotIn w) := h ▸ or_snotin
theorem set0_w (h : X.w = w := by rfl) : CallR X (.type "set") (rSet0 w) := h ▸ cr_set0
theorem pi_lK {tg l : Expr} {tl : TE} (hl : PE X l tl) (h : X.K = K := by rfl) : PI X tg l (iList K tl) := h ▸ pi_list hl
theorem pi_tK {tg l : Expr} {tl : TE} (hl : PE X l tl) (h : X.K = K := by rfl) : PI X tg l (iTup K tl) := h ▸ pi_tup hl
theorem truth_K {a : Expr} {ta : TE} (ha : PE X a ta) (he : ∀ whole, isTrue a X.env whole = (do let v ← whole; standAt a.pos; holding [v] (truthy v))) (h : X.K = K := by rfl) :
    PT X a (fun σ H Q => ta σ H fun x H' => ∃ k, TruV K x H' k ∧ Q k H') := h ▸ pt_truth ha he
theorem bm0_K {o : Expr} {to : TE} {name : Str} {apos cpos : Pos} {T id : String} {r : V → List V → Hp → VK → Prop} (pa : PlainAttrs T) (slot : Slot T name id) (hty : typeOf (.builtin id) = pure (.type "method_descriptor")) (hm : MtR X id r) (ho : PE X o to)
    (hbase : attributeBase o name X.env (eval o X.env) = eval o X.env := by rfl) (hline : (apos.endLine == cpos.line) = true := by rfl) (h : X.K = K := by rfl) : PE X (.Call (.Attribute o name apos) [] [] cpos) (tBM0 K T r to) := h ▸ pe_bm0 pa slot hty hm ho hbase hline
theorem bm_K {o e : Expr} {es : List Expr} {to : TE} {t : TA} {name : Str} {apos cpos : Pos} {T id : String} {r : V → List V → Hp → VK → Prop} (pa : PlainAttrs T) (slot : Slot T name id) (hty : typeOf (.builtin id) = pure (.type "method_descriptor")) (hm : MtR X id r) (ho : PE X o to) (ha : PA X (e :: es) t)
    (hbase : attributeBase o name X.env (eval o X.env) = eval o X.env := by rfl)
    (hfew : ((backTo cpos (starEach (e :: es) X.env)).all (fun x => !x.1) && (backToKw cpos (keywordEach [] X.env)).all (fun x => x.1.isSome)
      && decide ((e :: es).length + ([] : List Keyword).length + (if ([] : List Keyword).isEmpty then 0 else 1) < 30)) = true := by rfl)
    (hline : (apos.endLine == cpos.line) = true := by rfl) (hs : starEach (e :: es) X.env = (false, eval e X.env) :: starEach es X.env := by rfl) (hplain : (backTo cpos (starEach es X.env)).any (·.1) = false := by rfl) (h : X.K = K := by rfl) :
    PE X (.Call (.Attribute o name apos) (e :: es) [] cpos) (tBM K T r to t) := h ▸ pe_bm pa slot hty hm ho ha hbase hfew hline hs hplain
theorem sadd_w {o e : Expr} {es : List Expr} {to : TE} {t : TA} {apos cpos : Pos} (ho : PE X o to) (ha : PA X (e :: es) t)
    (hbase : attributeBase o "add" X.env (eval o X.env) = eval o X.env := by rfl)
    (hfew : ((backTo cpos (starEach (e :: es) X.env)).all (fun x => !x.1) && (backToKw cpos (keywordEach [] X.env)).all (fun x => x.1.isSome)
      && decide ((e :: es).length + ([] : List Keyword).length + (if ([] : List Keyword).isEmpty then 0 else 1) < 30)) = true := by rfl)
    (hline : (apos.endLine == cpos.line) = true := by rfl) (hs : starEach (e :: es) X.env = (false, eval e X.env) :: starEach es X.env := by rfl) (hplain : (backTo cpos (starEach es X.env)).any (·.1) = false := by rfl) (h : X.w = w := by rfl) :
    PE X (.Call (.Attribute o "add" apos) (e :: es) [] cpos) (tSAdd w to t) := h ▸ pe_sadd ho ha hbase hfew hline hs hplain
end
end
end L2
end

/-! G1: value environments over the hand layer. F: the frozen view of the heap (read only from now on), L: what is owned (may still be written). -/
namespace G
open PySem L2

structure GCtx where
  P : Program
  w : World
  K : PySem.W.Frag

abbrev LO := List (Addr × HO)

structure En where
  F0 : Hp
  H0 : Hp
  M : List Addr

structure Wk (e : En) (F : Hp) (L : LO) (H : Hp) : Prop where
  ff : Same e.F0 F
  hh : ∀ a o, a ∉ e.M → e.H0 a = some o → H a = some o
  th : ∀ a, e.H0 a ≠ none → H a ≠ none
  fh : Same F H
  nw : ∀ a, e.H0 a ≠ none → e.F0 a = none → F a = none
  tp : ∀ a xs, H a = some (.tup xs) → F a = some (.tup xs)
  ow : ∀ p ∈ L, F p.1 = none ∧ H p.1 = some p.2 ∧ (e.H0 p.1 = none ∨ p.1 ∈ e.M)
  nd : (L.map Prod.fst).Nodup

/-- the heap has grown, nothing that stood has changed -/
abbrev Gr (F H F' H' : Hp) : Prop := Wk ⟨F, H, []⟩ F' [] H'

theorem ne_some {α : Type} {x : Option α} {y : α} (h : x = some y) : x ≠ none := fun z => by rw [z] at h; cases h

theorem Wk.base {e : En} {F : Hp} {L : LO} {H : Hp} (k : Wk e F L H) : Gr F H F H :=
  ⟨Same.refl _, fun _ _ _ h => h, fun _ h => h, k.fh, fun _ _ h => h, k.tp, fun _ h => (nomatch h), List.nodup_nil⟩

theorem Wk.trans {e : En} {F F' : Hp} {L L' : LO} {H H' : Hp} (a : Wk e F L H) (b : Wk ⟨F, H, []⟩ F' L' H') : Wk e F' (L' ++ L) H' where
  ff := a.ff.trans b.ff
  hh := fun x o hx h => b.hh x o (fun z => nomatch z) (a.hh x o hx h)
  th := fun x h => b.th x (a.th x h)
  fh := b.fh
  nw := fun x h h' => b.nw x (a.th x h) (a.nw x h h')
  tp := b.tp
  ow := fun p hp => by
    rcases List.mem_append.mp hp with hp | hp
    · obtain ⟨h1, h2, h3⟩ := b.ow p hp
      refine ⟨h1, h2, .inl ?_⟩
      rcases h3 with h3 | h3
      · cases q : e.H0 p.1 with
        | none => rfl
        | some o => exact absurd h3 (a.th p.1 (ne_some q))
      · exact nomatch h3
    · obtain ⟨h1, h2, h3⟩ := a.ow p hp
      exact ⟨b.nw p.1 (ne_some h2) h1, b.hh p.1 p.2 (fun z => nomatch z) h2, h3⟩
  nd := by
    rw [List.map_append]
    refine List.nodup_append.mpr ⟨b.nd, a.nd, fun x hx y hy z => ?_⟩
    obtain ⟨p, hp, rfl⟩ := List.mem_map.mp hx
    obtain ⟨q, hq, rfl⟩ := List.mem_map.mp hy
    obtain ⟨_, _, h3⟩ := b.ow p hp
    obtain ⟨_, h2, _⟩ := a.ow q hq
    rcases h3 with h3 | h3
    · have h4 : H q.1 = none := (show p.1 = q.1 from z) ▸ (show H p.1 = none from h3)
      rw [h2] at h4
      cases h4
    · exact nomatch h3

theorem Wk.trans0 {e : En} {F F' : Hp} {L : LO} {H H' : Hp} (a : Wk e F L H) (b : Gr F H F' H') : Wk e F' L H' := a.trans b

/-- a part of what is owned may be forgotten; the order is nothing -/
theorem Wk.sub {e : En} {F : Hp} {L L' : LO} {H : Hp} (a : Wk e F L H) (hs : ∀ p ∈ L', p ∈ L) (hn : (L'.map Prod.fst).Nodup) : Wk e F L' H :=
  ⟨a.ff, a.hh, a.th, a.fh, a.nw, a.tp, fun p hp => a.ow p (hs p hp), hn⟩

theorem nodup_part {L1 Li L2 : LO} (h : ((L1 ++ Li ++ L2).map Prod.fst).Nodup) : ((L1 ++ L2).map Prod.fst).Nodup := by
  simp only [List.map_append] at h ⊢
  have h1 := List.nodup_append.mp h
  have h2 := List.nodup_append.mp h1.1
  exact List.nodup_append.mpr ⟨h2.1, h1.2.1, fun x hx y hy => h1.2.2 x (List.mem_append_left _ hx) y hy⟩
theorem Wk.drop {e : En} {F : Hp} {L1 Li L2 : LO} {H : Hp} (a : Wk e F (L1 ++ Li ++ L2) H) : Wk e F (L1 ++ L2) H :=
  a.sub (fun p hp => by
    rcases List.mem_append.mp hp with h | h
    · exact List.mem_append_left _ (List.mem_append_left _ h)
    · exact List.mem_append_right _ h) (nodup_part a.nd)
theorem nodup_mid {L1 Li L2 : LO} (h : ((L1 ++ Li ++ L2).map Prod.fst).Nodup) : ((Li ++ (L1 ++ L2)).map Prod.fst).Nodup := by
  simp only [List.map_append] at h ⊢
  refine (List.Perm.nodup_iff ?_).mp h
  rw [← List.append_assoc]
  exact List.Perm.append_right _ List.perm_append_comm
theorem nodup_back {L1 Li L2 : LO} (h : ((Li ++ (L1 ++ L2)).map Prod.fst).Nodup) : ((L1 ++ Li ++ L2).map Prod.fst).Nodup := by
  simp only [List.map_append] at h ⊢
  refine (List.Perm.nodup_iff ?_).mp h
  rw [← List.append_assoc]
  exact List.Perm.append_right _ List.perm_append_comm
theorem Wk.front {e : En} {F : Hp} {L1 Li L2 : LO} {H : Hp} (a : Wk e F (L1 ++ Li ++ L2) H) : Wk e F (Li ++ (L1 ++ L2)) H :=
  a.sub (fun p hp => by simp only [List.mem_append] at hp ⊢; rcases hp with h | h | h <;> simp [h]) (nodup_mid a.nd)
theorem Wk.back {e : En} {F : Hp} {L1 Li L2 : LO} {H : Hp} (a : Wk e F (Li ++ (L1 ++ L2)) H) : Wk e F (L1 ++ Li ++ L2) H :=
  a.sub (fun p hp => by simp only [List.mem_append] at hp ⊢; rcases hp with (h | h) | h <;> simp [h]) (nodup_back a.nd)

/-- a new object, owned -/
theorem Wk.own {e : En} {F : Hp} {L : LO} {H : Hp} {p : Addr} {o : HO} (a : Wk e F L H) (hp : H p = none) (ht : ∀ xs, o ≠ .tup xs) : Wk e F ((p, o) :: L) (upd H p o) where
  ff := a.ff
  hh := fun x u hx h => by rw [upd_ne (ne_of_none (a.hh x u hx h) hp)]; exact a.hh x u hx h
  th := fun x h => by
    by_cases hx : x = p
    · subst hx; rw [upd_same]; exact fun z => nomatch z
    · rw [upd_ne hx]; exact a.th x h
  fh := fun x u h => by rw [upd_ne (ne_of_none (a.fh x u h) hp)]; exact a.fh x u h
  nw := a.nw
  tp := fun x xs h => by
    by_cases hx : x = p
    · subst hx; rw [upd_same] at h; exact absurd (Option.some.inj h) (ht xs)
    · rw [upd_ne hx] at h; exact a.tp x xs h
  ow := fun q hq => by
    rcases List.mem_cons.mp hq with rfl | hq
    · refine ⟨Same.free a.fh hp, upd_same, .inl ?_⟩
      cases z : e.H0 p with
      | none => rfl
      | some u => exact absurd hp (a.th p (ne_some z))
    · obtain ⟨h1, h2, h3⟩ := a.ow q hq
      exact ⟨h1, by rw [upd_ne (ne_of_none h2 hp)]; exact h2, h3⟩
  nd := by
    refine List.nodup_cons.mpr ⟨fun z => ?_, a.nd⟩
    obtain ⟨q, hq, e1⟩ := List.mem_map.mp z
    obtain ⟨_, h2, _⟩ := a.ow q hq
    rw [show q.1 = p from e1, hp] at h2
    cases h2

/-- what is owned is frozen -/
theorem Wk.freeze1 {e : En} {F : Hp} {L : LO} {H : Hp} {p : Addr} {o : HO} (a : Wk e F ((p, o) :: L) H) (hm : p ∉ e.M) : Wk e (upd F p o) L H where
  ff := fun x u h => by
    have h1 := (a.ow (p, o) List.mem_cons_self).1
    rw [upd_ne (ne_of_none (a.ff x u h) h1)]
    exact a.ff x u h
  hh := a.hh
  th := a.th
  fh := fun x u h => by
    by_cases hx : x = p
    · subst hx; rw [upd_same] at h; cases h
      exact (a.ow (x, o) List.mem_cons_self).2.1
    · rw [upd_ne hx] at h; exact a.fh x u h
  nw := fun x h h' => by
    have hx : x ≠ p := fun z => by
      subst z
      rcases (a.ow (x, o) List.mem_cons_self).2.2 with z | z
      · exact h z
      · exact hm z
    rw [upd_ne hx]; exact a.nw x h h'
  tp := fun x xs h => by
    by_cases hx : x = p
    · subst hx
      have h2 := (a.ow (x, o) List.mem_cons_self).2.1
      rw [upd_same, ← h2, h]
    · rw [upd_ne hx]; exact a.tp x xs h
  ow := fun q hq => by
    obtain ⟨h1, h2, h3⟩ := a.ow q (List.mem_cons_of_mem _ hq)
    have hx : q.1 ≠ p := fun z => (List.nodup_cons.mp a.nd).1 (List.mem_map.mpr ⟨q, hq, z⟩)
    exact ⟨by rw [upd_ne hx]; exact h1, h2, h3⟩
  nd := (List.nodup_cons.mp a.nd).2
/-- the owned L joins F -/
def plus (F : Hp) : LO → Hp
  | [] => F
  | p :: L => plus (upd F p.1 p.2) L
theorem Wk.freeze : ∀ {Li L : LO} {e : En} {F : Hp} {H : Hp}, Wk e F (Li ++ L) H → (∀ p ∈ Li, p.1 ∉ e.M) → Wk e (plus F Li) L H
  | [], _, _, _, _, a, _ => a
  | p :: Li, L, e, F, H, a, hm => Wk.freeze (Li := Li) (Wk.freeze1 (p := p.1) (o := p.2) a (hm p List.mem_cons_self)) fun q hq => hm q (List.mem_cons_of_mem _ hq)
theorem same_plus : ∀ {Li : LO} {F : Hp}, (∀ p ∈ Li, F p.1 = none) → (Li.map Prod.fst).Nodup → Same F (plus F Li)
  | [], F, _, _ => Same.refl F
  | p :: Li, F, h, hn => by
    have h1 : Same F (upd F p.1 p.2) := fun x u e => by rw [upd_ne (ne_of_none e (h p List.mem_cons_self))]; exact e
    refine h1.trans (same_plus (fun q hq => ?_) (List.nodup_cons.mp hn).2)
    have hx : q.1 ≠ p.1 := fun z => (List.nodup_cons.mp hn).1 (List.mem_map.mpr ⟨q, hq, z⟩)
    rw [upd_ne hx]
    exact h q (List.mem_cons_of_mem _ hq)
theorem plus_get : ∀ {Li : LO} {F : Hp}, (∀ p ∈ Li, F p.1 = none) → (Li.map Prod.fst).Nodup → ∀ p ∈ Li, plus F Li p.1 = some p.2
  | [], _, _, _, _, hq => nomatch hq
  | p :: Li, F, h, hn, q, hq => by
    have hb : ∀ r ∈ Li, upd F p.1 p.2 r.1 = none := fun r hr => by
      have hx : r.1 ≠ p.1 := fun z => (List.nodup_cons.mp hn).1 (List.mem_map.mpr ⟨r, hr, z⟩)
      rw [upd_ne hx]
      exact h r (List.mem_cons_of_mem _ hr)
    rcases List.mem_cons.mp hq with rfl | hq
    · exact same_plus hb (List.nodup_cons.mp hn).2 q.1 q.2 upd_same
    · exact plus_get (Li := Li) hb (List.nodup_cons.mp hn).2 q hq

/-- a new object, frozen at once -/
theorem Wk.lay {e : En} {F : Hp} {L : LO} {H : Hp} {p : Addr} {o : HO} (a : Wk e F L H) (hp : H p = none) : Wk e (upd F p o) L (upd H p o) where
  ff := fun x u h => by rw [upd_ne (ne_of_none (a.ff x u h) (Same.free a.fh hp))]; exact a.ff x u h
  hh := fun x u hx h => by rw [upd_ne (ne_of_none (a.hh x u hx h) hp)]; exact a.hh x u hx h
  th := fun x h => by
    by_cases hx : x = p
    · subst hx; rw [upd_same]; exact fun z => nomatch z
    · rw [upd_ne hx]; exact a.th x h
  fh := fun x u h => by
    by_cases hx : x = p
    · subst hx; rw [upd_same] at h ⊢; exact h
    · rw [upd_ne hx] at h ⊢; exact a.fh x u h
  nw := fun x h h' => by
    have hx : x ≠ p := fun z => by subst z; exact a.th x h hp
    rw [upd_ne hx]; exact a.nw x h h'
  tp := fun x xs h => by
    by_cases hx : x = p
    · subst hx; rw [upd_same] at h ⊢; exact h
    · rw [upd_ne hx] at h ⊢; exact a.tp x xs h
  ow := fun q hq => by
    obtain ⟨h1, h2, h3⟩ := a.ow q hq
    have hx : q.1 ≠ p := ne_of_none h2 hp
    exact ⟨by rw [upd_ne hx]; exact h1, by rw [upd_ne hx]; exact h2, h3⟩
  nd := a.nd
/-- an owned object is written -/
theorem Wk.put {e : En} {F : Hp} {L : LO} {H : Hp} {p : Addr} {o o' : HO} (a : Wk e F ((p, o) :: L) H) (ht : ∀ xs, o' ≠ .tup xs) : Wk e F ((p, o') :: L) (upd H p o') where
  ff := a.ff
  hh := fun x u hx h => by
    have hp : x ≠ p := fun z => by
      subst z
      rcases (a.ow (x, o) List.mem_cons_self).2.2 with z | z
      · rw [show e.H0 x = none from z] at h; cases h
      · exact hx z
    rw [upd_ne hp]; exact a.hh x u hx h
  th := fun x h => by
    by_cases hx : x = p
    · subst hx; rw [upd_same]; exact fun z => nomatch z
    · rw [upd_ne hx]; exact a.th x h
  fh := fun x u h => by
    rw [upd_ne (ne_of_none h (a.ow (p, o) List.mem_cons_self).1)]; exact a.fh x u h
  nw := a.nw
  tp := fun x xs h => by
    by_cases hx : x = p
    · subst hx; rw [upd_same] at h; exact absurd (Option.some.inj h) (ht xs)
    · rw [upd_ne hx] at h; exact a.tp x xs h
  ow := fun q hq => by
    rcases List.mem_cons.mp hq with rfl | hq
    · obtain ⟨h1, _, h3⟩ := a.ow (p, o) List.mem_cons_self
      exact ⟨h1, upd_same, h3⟩
    · obtain ⟨h1, h2, h3⟩ := a.ow q (List.mem_cons_of_mem _ hq)
      have hx : q.1 ≠ p := fun z => (List.nodup_cons.mp a.nd).1 (List.mem_map.mpr ⟨q, hq, z⟩)
      exact ⟨h1, by rw [upd_ne hx]; exact h2, h3⟩
  nd := by
    have h := a.nd
    exact h

/-! ### data -/
class Dat (α : Type) where
  rep : GCtx → Hp → V → α → Prop
  mono : ∀ {C : GCtx} {F F' : Hp} {v : V} {x : α}, Same F F' → rep C F v x → rep C F' v x
/-- data that may be owned: L is its footprint -/
class OD (α : Type) [d : Dat α] where
  orep : GCtx → Hp → V → α → LO → Prop
  omono : ∀ {C : GCtx} {F F' : Hp} {v : V} {x : α} {L : LO}, Same F F' → orep C F v x L → orep C F' v x L
  view : ∀ {C : GCtx} {F H : Hp} {v : V} {x : α} {L : LO}, orep C F v x L → Same F H → (∀ p ∈ L, H p.1 = some p.2) → d.rep C H v x
/-- data that no store can change -/
class Imm (α : Type) [d : Dat α] : Prop where
  imm : ∀ {C : GCtx} {F H : Hp} {v : V} {x : α}, (∀ a xs, H a = some (.tup xs) → F a = some (.tup xs)) → d.rep C H v x → d.rep C F v x

inductive Cell : Type 1 where
  | no : Cell
  | val {α : Type} (d : Dat α) (x : α) : Cell
  | own {α : Type} (d : Dat α) (od : OD α) (pin : Option V) (x : α) : Cell
abbrev cv {α : Type} [d : Dat α] (x : α) : Cell := .val d x
abbrev co {α : Type} [d : Dat α] [od : OD α] (x : α) : Cell := .own d od none x
abbrev cp {α : Type} [d : Dat α] [od : OD α] (v : V) (x : α) : Cell := .own d od (some v) x

def CellOk (C : GCtx) (F : Hp) (o : Option V) : Cell → LO → Prop
  | .no, L => L = []
  | .val d x, L => L = [] ∧ ∃ v, o = some v ∧ d.rep C F v x
  | .own _ od pin x, L => ∃ v, o = some v ∧ (∀ u, pin = some u → v = u) ∧ od.orep C F v x L
theorem CellOk.mono {C : GCtx} {F F' : Hp} {o : Option V} : ∀ {c : Cell} {L : LO}, Same F F' → CellOk C F o c L → CellOk C F' o c L
  | .no, _, _, h => h
  | .val d x, _, s, ⟨h, v, e, r⟩ => ⟨h, v, e, d.mono s r⟩
  | .own _ od pin x, _, s, ⟨v, e, p, r⟩ => ⟨v, e, p, od.omono s r⟩

inductive Slots (C : GCtx) (F : Hp) : St → List Cell → LO → Prop where
  | nil : Slots C F [] [] []
  | cons {o : Option V} {c : Cell} {L L' : LO} {σ : St} {Γ : List Cell} (h : CellOk C F o c L) (r : Slots C F σ Γ L') : Slots C F (o :: σ) (c :: Γ) (L ++ L')
theorem Slots.mono {C : GCtx} {F F' : Hp} {σ : St} {Γ : List Cell} {L : LO} (s : Same F F') (h : Slots C F σ Γ L) : Slots C F' σ Γ L := by
  induction h with
  | nil => exact .nil
  | cons h _ ih => exact .cons (h.mono s) ih
theorem Slots.len {C : GCtx} {F : Hp} {σ : St} {Γ : List Cell} {L : LO} (h : Slots C F σ Γ L) : σ.length = Γ.length := by
  induction h with
  | nil => rfl
  | cons h _ ih => simp [ih]
theorem Slots.get {C : GCtx} {F : Hp} {σ : St} {Γ : List Cell} {L : LO} (h : Slots C F σ Γ L) : ∀ {i : Nat} {c : Cell}, Γ[i]? = some c →
    ∃ o L1 Li L2, σ[i]? = some o ∧ L = L1 ++ Li ++ L2 ∧ CellOk C F o c Li ∧ ∀ F' o' c' Li', Same F F' → CellOk C F' o' c' Li' → Slots C F' (σ.set i o') (Γ.set i c') (L1 ++ Li' ++ L2) := by
  induction h with
  | nil => intro i c h; cases i <;> cases h
  | @cons o c0 L L' σ Γ h r ih =>
    intro i c hi
    cases i with
    | zero =>
      cases (Option.some.inj hi : c0 = c)
      exact ⟨o, [], L, L', rfl, rfl, h, fun F' o' c' Li' s h' => .cons h' (r.mono s)⟩
    | succ i =>
      obtain ⟨o1, L1, Li, L2, e1, e2, h1, f⟩ := ih (i := i) (c := c) hi
      refine ⟨o1, L ++ L1, Li, L2, e1, by rw [e2]; simp [List.append_assoc], h1, fun F' o' c' Li' s h' => ?_⟩
      have q := Slots.cons (h.mono s) (f F' o' c' Li' s h')
      simpa [List.append_assoc] using q
theorem Slots.take {C : GCtx} {F : Hp} {σ : St} {Γ : List Cell} {L : LO} (h : Slots C F σ Γ L) (n : Nat) : ∃ L1, Slots C F (σ.take n) (Γ.take n) L1 ∧ L1.Sublist L := by
  induction h generalizing n with
  | nil => exact ⟨[], by simpa using Slots.nil, List.Sublist.refl _⟩
  | @cons o c0 L L' σ Γ h r ih =>
    cases n with
    | zero => exact ⟨[], by simpa using Slots.nil, List.nil_sublist _⟩
    | succ n =>
      obtain ⟨L1, q, s⟩ := ih n
      exact ⟨L ++ L1, by simpa using Slots.cons h q, List.Sublist.append (List.Sublist.refl _) s⟩

/-- an exception: its class, its attributes -/
structure Exn where
  cls : Addr
  fs : Option (List (Str × V))
def Exn.at (x : Exn) (F : Hp) : Option Addr → Prop
  | none => x.fs = none
  | some dd => ∃ fs, x.fs = some fs ∧ F dd = some (.xd fs)
/-- where one stands: the def's world, what is wished of an exception that leaves, which ones may leave, and with what environment -/
structure YC where
  g : GCtx
  E : St → XK
  kx : Exn → List Cell → Prop
abbrev YC.K (Y : YC) : PySem.W.Frag := Y.g.K
abbrev YC.w (Y : YC) : World := Y.g.w
abbrev YC.P (Y : YC) : Program := Y.g.P
abbrev calm (C : GCtx) : YC := ⟨C, fun _ _ _ _ => False, fun _ _ => False⟩
def St0 (C : GCtx) (e : En) (F : Hp) (σ : St) (H : Hp) (Γ : List Cell) : Prop := ∃ L, Wk e F L H ∧ Slots C F σ Γ L
def XOk (Y : YC) (e : En) : Prop := ∀ (x : Exn) (d : Option Addr) (F : Hp) (σ : St) (H : Hp) (Γ : List Cell), Y.kx x Γ → St0 Y.g e F σ H Γ → x.at F d → Y.E σ (.ref x.cls) d H
/-- THE STATE: the slots hold what the environment says -/
def State (Y : YC) (e : En) (F : Hp) (σ : St) (H : Hp) (Γ : List Cell) : Prop := XOk Y e ∧ ∃ L, Wk e F L H ∧ Slots Y.g F σ Γ L
section
variable {C : GCtx} {Y : YC} {e : En} {F F' : Hp} {σ : St} {H H' : Hp} {Γ : List Cell}
theorem State.grow (s : State Y e F σ H Γ) (g : Gr F H F' H') : State Y e F' σ H' Γ := by
  obtain ⟨hx, L, k, sl⟩ := s
  exact ⟨hx, L, k.trans0 g, sl.mono g.ff⟩
theorem State.base (s : State Y e F σ H Γ) : Gr F H F H := let ⟨_, _, k, _⟩ := s; k.base
theorem State.fh (s : State Y e F σ H Γ) : Same F H := let ⟨_, _, k, _⟩ := s; k.fh
theorem State.val {α : Type} {d : Dat α} {x : α} {i : Nat} (s : State Y e F σ H Γ) (h : Γ[i]? = some (.val d x)) : ∃ v, σ[i]? = some (some v) ∧ d.rep Y.g F v x := by
  obtain ⟨hx, L, k, sl⟩ := s
  obtain ⟨o, L1, Li, L2, e1, _, ⟨_, v, rfl, r⟩, _⟩ := sl.get h
  exact ⟨v, e1, r⟩
theorem State.own {α : Type} {d : Dat α} {od : OD α} {x : α} {i : Nat} {pin : Option V} (s : State Y e F σ H Γ) (h : Γ[i]? = some (.own d od pin x)) : ∃ v, σ[i]? = some (some v) ∧ d.rep Y.g H v x := by
  obtain ⟨hx, L, k, sl⟩ := s
  obtain ⟨o, L1, Li, L2, e1, e2, ⟨v, rfl, _, r⟩, _⟩ := sl.get h
  exact ⟨v, e1, od.view r k.fh fun p hp => (k.ow p (by rw [e2]; exact List.mem_append_left _ (List.mem_append_right _ hp))).2.1⟩
/-- a slot is stored -/
theorem State.set {c c' : Cell} {i : Nat} {v : V} {L' : LO} (s : State Y e F σ H Γ) (h : Γ[i]? = some c) (g : Wk ⟨F, H, []⟩ F' L' H') (r : CellOk Y.g F' (some v) c' L') : State Y e F' (σ.set i (some v)) H' (Γ.set i c') := by
  obtain ⟨hx, L, k, sl⟩ := s
  obtain ⟨o, L1, Li, L2, e1, e2, _, f⟩ := sl.get h
  refine ⟨hx, L1 ++ L' ++ L2, ?_, f F' (some v) c' L' g.ff r⟩
  have q := k.trans g
  rw [e2] at q
  have q2 : Wk e F' ((L' ++ L1) ++ Li ++ L2) H' := by simpa [List.append_assoc] using q
  have q3 := q2.drop
  have q4 : Wk e F' (L' ++ (L1 ++ L2)) H' := by simpa [List.append_assoc] using q3
  exact q4.back
/-- a slot is forgotten -/
theorem State.forget {i : Nat} {c : Cell} {o : Option V} (s : State Y e F σ H Γ) (h : Γ[i]? = some c) : State Y e F (σ.set i o) H (Γ.set i .no) := by
  obtain ⟨hx, L, k, sl⟩ := s
  obtain ⟨o1, L1, Li, L2, e1, e2, _, f⟩ := sl.get h
  rw [e2] at k
  have q := f F o .no [] (Same.refl _) rfl
  rw [List.append_nil] at q
  exact ⟨hx, L1 ++ L2, k.drop, q⟩
theorem State.hide {i : Nat} {c : Cell} (s : State Y e F σ H Γ) (h : Γ[i]? = some c) : State Y e F σ H (Γ.set i .no) := by
  obtain ⟨hx, L, k, sl⟩ := s
  obtain ⟨o1, L1, Li, L2, e1, e2, _, f⟩ := sl.get h
  rw [e2] at k
  have q := f F o1 .no [] (Same.refl _) rfl
  rw [List.append_nil] at q
  have z : σ.set i o1 = σ := by
    apply List.ext_getElem?
    intro j
    by_cases hj : i = j
    · subst hj
      obtain ⟨hlt, hv⟩ := List.getElem?_eq_some_iff.mp e1
      rw [List.getElem?_set_self hlt, e1]
    · rw [List.getElem?_set_ne hj]
  rw [z] at q
  exact ⟨hx, L1 ++ L2, k.drop, q⟩
end
end G

/-! G2: data, judgements, the rules for expressions. -/
namespace G
open PySem L2

theorem Wk.hh0 {F H F' H' : Hp} {L : LO} (g : Wk ⟨F, H, []⟩ F' L H') : Same H H' := fun a o h => g.hh a o (fun z => nomatch z) h

/-! ### scalars -/
instance dInt : Dat Int := ⟨fun _ _ v x => v = .int x, fun _ h => h⟩
instance dBool : Dat Bool := ⟨fun _ _ v x => v = .bl x, fun _ h => h⟩
instance dStr : Dat Str := ⟨fun _ _ v x => v = .str x, fun _ h => h⟩
instance dUnit : Dat Unit := ⟨fun _ _ v _ => v = .non, fun _ h => h⟩
instance imInt : Imm Int := ⟨fun _ h => h⟩
instance imBool : Imm Bool := ⟨fun _ h => h⟩
instance imStr : Imm Str := ⟨fun _ h => h⟩
instance imUnit : Imm Unit := ⟨fun _ h => h⟩
/-- None or a value -/
inductive Opt (α : Type) where
  | none : Opt α
  | some (x : α) : Opt α
  deriving DecidableEq
instance dOpt {α : Type} [d : Dat α] : Dat (Opt α) := ⟨fun C F v x => match x with | .none => v = .non | .some y => d.rep C F v y, fun {C F F' v x} s h => match x, h with | .none, h => h | .some _, h => d.mono s h⟩
instance imOpt {α : Type} [d : Dat α] [i : Imm α] : Imm (Opt α) := ⟨fun {C F H v x} t h => match x, h with | .none, h => h | .some _, h => i.imm t h⟩

/-! ### lists -/
def Reps {α : Type} (d : Dat α) (C : GCtx) (F : Hp) : List V → List α → Prop
  | [], [] => True
  | v :: vs, x :: xs => d.rep C F v x ∧ Reps d C F vs xs
  | _, _ => False
section
variable {α : Type} {d : Dat α} {C : GCtx} {Y : YC} {F F' : Hp}
theorem Reps.mono (s : Same F F') : ∀ {vs : List V} {xs : List α}, Reps d C F vs xs → Reps d C F' vs xs
  | [], [], _ => trivial
  | _ :: _, _ :: _, h => ⟨d.mono s h.1, Reps.mono s h.2⟩
  | [], _ :: _, h => h.elim
  | _ :: _, [], h => h.elim
theorem Reps.len : ∀ {vs : List V} {xs : List α}, Reps d C F vs xs → vs.length = xs.length
  | [], [], _ => rfl
  | _ :: _, _ :: _, h => by simp [Reps.len h.2]
  | [], _ :: _, h => h.elim
  | _ :: _, [], h => h.elim
theorem Reps.get : ∀ {vs : List V} {xs : List α} {i : Nat} {x : α}, Reps d C F vs xs → xs[i]? = some x → ∃ v, vs[i]? = some v ∧ d.rep C F v x
  | [], [], i, x, _, h => by cases i <;> cases h
  | v :: vs, y :: xs, 0, x, h, e => by cases (Option.some.inj e : y = x); exact ⟨v, rfl, h.1⟩
  | v :: vs, y :: xs, i + 1, x, h, e => Reps.get (i := i) h.2 e
  | [], _ :: _, _, _, h, _ => h.elim
  | _ :: _, [], _, _, h, _ => h.elim
theorem Reps.getV : ∀ {vs : List V} {xs : List α} {i : Nat} {v : V}, Reps d C F vs xs → vs[i]? = some v → ∃ x, xs[i]? = some x ∧ d.rep C F v x
  | [], [], i, x, _, h => by cases i <;> cases h
  | v :: vs, y :: xs, 0, x, h, e => by cases (Option.some.inj e : v = x); exact ⟨y, rfl, h.1⟩
  | v :: vs, y :: xs, i + 1, x, h, e => Reps.getV (i := i) h.2 e
  | [], _ :: _, _, _, h, _ => h.elim
  | _ :: _, [], _, _, h, _ => h.elim
theorem Reps.append : ∀ {vs ws : List V} {xs ys : List α}, Reps d C F vs xs → Reps d C F ws ys → Reps d C F (vs ++ ws) (xs ++ ys)
  | [], _, [], _, _, h => h
  | _ :: _, _, _ :: _, _, h, g => ⟨h.1, Reps.append h.2 g⟩
  | [], _, _ :: _, _, h, _ => h.elim
  | _ :: _, _, [], _, h, _ => h.elim
theorem Reps.one {v : V} {x : α} (h : d.rep C F v x) : Reps d C F [v] [x] := ⟨h, trivial⟩
theorem Reps.take : ∀ {vs : List V} {xs : List α} (n : Nat), Reps d C F vs xs → Reps d C F (vs.take n) (xs.take n)
  | [], [], n, _ => by simp [Reps]
  | _ :: _, _ :: _, 0, _ => trivial
  | _ :: _, _ :: _, n + 1, h => ⟨h.1, Reps.take n h.2⟩
  | [], _ :: _, _, h => h.elim
  | _ :: _, [], _, h => h.elim
theorem Reps.drop : ∀ {vs : List V} {xs : List α} (n : Nat), Reps d C F vs xs → Reps d C F (vs.drop n) (xs.drop n)
  | [], [], n, _ => by simp [Reps]
  | _ :: _, _ :: _, 0, h => h
  | _ :: _, _ :: _, n + 1, h => Reps.drop n h.2
  | [], _ :: _, _, h => h.elim
  | _ :: _, [], _, h => h.elim
theorem Reps.set {v : V} {x : α} : ∀ {vs : List V} {xs : List α} (i : Nat), Reps d C F vs xs → d.rep C F v x → Reps d C F (vs.set i v) (xs.set i x)
  | [], [], _, _, _ => trivial
  | _ :: _, _ :: _, 0, h, g => ⟨g, h.2⟩
  | _ :: _, _ :: _, i + 1, h, g => ⟨h.1, Reps.set i h.2 g⟩
  | [], _ :: _, _, h, _ => h.elim
  | _ :: _, [], _, h, _ => h.elim
theorem Reps.ints : ∀ {vs : List V} {xs : List Int}, Reps dInt C F vs xs → vs = xs.map V.int
  | [], [], _ => rfl
  | _ :: _, _ :: _, h => by rw [Reps.ints h.2, show _ = V.int _ from h.1]; rfl
  | [], _ :: _, h => h.elim
  | _ :: _, [], h => h.elim
theorem Reps.ofInts : ∀ (xs : List Int), Reps dInt C F (xs.map V.int) xs
  | [] => trivial
  | _ :: xs => ⟨rfl, Reps.ofInts xs⟩
theorem Reps.bools : ∀ {vs : List V} {xs : List Bool}, Reps dBool C F vs xs → vs = xs.map V.bl
  | [], [], _ => rfl
  | _ :: _, _ :: _, h => by rw [Reps.bools h.2, show _ = V.bl _ from h.1]; rfl
  | [], _ :: _, h => h.elim
  | _ :: _, [], h => h.elim
theorem Reps.imm [i : @Imm α d] {H : Hp} (t : ∀ a xs, H a = some (.tup xs) → F a = some (.tup xs)) : ∀ {vs : List V} {xs : List α}, Reps d C H vs xs → Reps d C F vs xs
  | [], [], _ => trivial
  | _ :: _, _ :: _, h => ⟨i.imm t h.1, Reps.imm t h.2⟩
  | [], _ :: _, h => h.elim
  | _ :: _, [], h => h.elim
end
/-- a tuple that stands still: frozen, or of the written part -/
def TpA (K : PySem.W.Frag) (F : Hp) (a : Addr) (xs : List V) : Prop := F a = some (.tup xs) ∨ SqT K (fun _ => none) a xs
theorem TpA.mono {K : PySem.W.Frag} {F F' : Hp} {a : Addr} {xs : List V} (s : Same F F') (h : TpA K F a xs) : TpA K F' a xs := h.imp (s a _) id
theorem TpA.sq {K : PySem.W.Frag} {F : Hp} {a : Addr} {xs : List V} (h : TpA K F a xs) : SqT K F a xs := by
  rcases h with h | h
  · exact .inl (.inl h)
  · rcases h with (h | ⟨_, h⟩) | h
    · cases h
    · cases h
    · exact .inr h
/-- a list that is tracked -/
theorem Same.rd {H H' : Hp} {a : Addr} {u : HO} (e : Same H H') (h : Rd H a u) : Rd H' a u := h.imp (e _ _) fun ⟨o, h⟩ => ⟨o, e _ _ h⟩
instance {K : PySem.W.Frag} {H : Hp} {a : Addr} {xs : List V} : Coe (Rd H a (.lst xs)) (SqL K H a xs) := ⟨.inl⟩
instance dList {α : Type} [d : Dat α] : Dat (List α) :=
  ⟨fun C F v xs => ∃ a vs, v = .ref a ∧ Rd F a (.lst vs) ∧ Reps d C F vs xs, fun s ⟨a, vs, e, h, r⟩ => ⟨a, vs, e, Same.rd s h, r.mono s⟩⟩
instance oList {α : Type} [d : Dat α] : OD (List α) where
  orep C F v xs L := ∃ a vs, v = .ref a ∧ L = [(a, .lst vs)] ∧ Reps d C F vs xs
  omono s := fun ⟨a, vs, e, h, r⟩ => ⟨a, vs, e, h, r.mono s⟩
  view := fun ⟨a, vs, e, h, r⟩ s k => ⟨a, vs, e, .inl (k (a, .lst vs) (by rw [h]; exact List.mem_cons_self)), r.mono s⟩
/-- a tuple of any length, its items alike -/
structure Tup (α : Type) where
  l : List α
  deriving DecidableEq
instance dTup {α : Type} [d : Dat α] : Dat (Tup α) :=
  ⟨fun C F v xs => ∃ a vs, v = .ref a ∧ TpA C.K F a vs ∧ Reps d C F vs xs.l, fun s ⟨a, vs, e, h, r⟩ => ⟨a, vs, e, h.mono s, r.mono s⟩⟩
instance imTup {α : Type} [d : Dat α] [i : Imm α] : Imm (Tup α) := ⟨fun t ⟨a, vs, e, h, r⟩ => ⟨a, vs, e, h.imp (t a _) id, r.imm t⟩⟩
instance dPair {α β : Type} [d1 : Dat α] [d2 : Dat β] : Dat (α × β) :=
  ⟨fun C F v x => ∃ a v1 v2, v = .ref a ∧ TpA C.K F a [v1, v2] ∧ d1.rep C F v1 x.1 ∧ d2.rep C F v2 x.2, fun s ⟨a, v1, v2, e, h, r1, r2⟩ => ⟨a, v1, v2, e, h.mono s, d1.mono s r1, d2.mono s r2⟩⟩
instance imPair {α β : Type} [d1 : Dat α] [d2 : Dat β] [i1 : Imm α] [i2 : Imm β] : Imm (α × β) := ⟨fun t ⟨a, v1, v2, e, h, r1, r2⟩ => ⟨a, v1, v2, e, h.imp (t a _) id, i1.imm t r1, i2.imm t r2⟩⟩
structure T3 (α β γ : Type) where
  a : α
  b : β
  c : γ
  deriving DecidableEq
structure T4 (α β γ δ : Type) where
  a : α
  b : β
  c : γ
  d : δ
  deriving DecidableEq
instance dT3 {α β γ : Type} [d1 : Dat α] [d2 : Dat β] [d3 : Dat γ] : Dat (T3 α β γ) :=
  ⟨fun C F v x => ∃ a v1 v2 v3, v = .ref a ∧ TpA C.K F a [v1, v2, v3] ∧ d1.rep C F v1 x.a ∧ d2.rep C F v2 x.b ∧ d3.rep C F v3 x.c,
    fun s ⟨a, v1, v2, v3, e, h, r1, r2, r3⟩ => ⟨a, v1, v2, v3, e, h.mono s, d1.mono s r1, d2.mono s r2, d3.mono s r3⟩⟩
instance imT3 {α β γ : Type} [d1 : Dat α] [d2 : Dat β] [d3 : Dat γ] [i1 : Imm α] [i2 : Imm β] [i3 : Imm γ] : Imm (T3 α β γ) :=
  ⟨fun t ⟨a, v1, v2, v3, e, h, r1, r2, r3⟩ => ⟨a, v1, v2, v3, e, h.imp (t a _) id, i1.imm t r1, i2.imm t r2, i3.imm t r3⟩⟩
instance dT4 {α β γ δ : Type} [d1 : Dat α] [d2 : Dat β] [d3 : Dat γ] [d4 : Dat δ] : Dat (T4 α β γ δ) :=
  ⟨fun C F v x => ∃ a v1 v2 v3 v4, v = .ref a ∧ TpA C.K F a [v1, v2, v3, v4] ∧ d1.rep C F v1 x.a ∧ d2.rep C F v2 x.b ∧ d3.rep C F v3 x.c ∧ d4.rep C F v4 x.d,
    fun s ⟨a, v1, v2, v3, v4, e, h, r1, r2, r3, r4⟩ => ⟨a, v1, v2, v3, v4, e, h.mono s, d1.mono s r1, d2.mono s r2, d3.mono s r3, d4.mono s r4⟩⟩
instance imT4 {α β γ δ : Type} [d1 : Dat α] [d2 : Dat β] [d3 : Dat γ] [d4 : Dat δ] [i1 : Imm α] [i2 : Imm β] [i3 : Imm γ] [i4 : Imm δ] : Imm (T4 α β γ δ) :=
  ⟨fun t ⟨a, v1, v2, v3, v4, e, h, r1, r2, r3, r4⟩ => ⟨a, v1, v2, v3, v4, e, h.imp (t a _) id, i1.imm t r1, i2.imm t r2, i3.imm t r3, i4.imm t r4⟩⟩

/-! ### judgements -/
/-- the term evaluates to a value that k is true of, frozen from now on -/
def W (Y : YC) (te : TE) (Γ : List Cell) {α : Type} (d : Dat α) (k : α → Prop) : Prop := ∀ (e : En) (F : Hp) (σ : St) (H : Hp), State Y e F σ H Γ → ∀ Q : VK, (∀ v F' H' x, k x → Gr F H F' H' → d.rep Y.g F' v x → Q v H') → te σ H Q
/-- .. that may be read until the next store -/
def R (Y : YC) (te : TE) (Γ : List Cell) {α : Type} (d : Dat α) (k : α → Prop) : Prop := ∀ (e : En) (F : Hp) (σ : St) (H : Hp), State Y e F σ H Γ → ∀ Q : VK, (∀ v F' H' x, k x → Gr F H F' H' → d.rep Y.g H' v x → Q v H') → te σ H Q
/-- .. that is new, and owned -/
def O (Y : YC) (te : TE) (Γ : List Cell) {α : Type} {d : Dat α} (od : OD α) (k : α → Prop) : Prop := ∀ (e : En) (F : Hp) (σ : St) (H : Hp), State Y e F σ H Γ → ∀ Q : VK, (∀ v F' H' L' x, k x → Wk ⟨F, H, []⟩ F' L' H' → od.orep Y.g F' v x L' → Q v H') → te σ H Q
def T (Y : YC) (t : TT) (Γ : List Cell) (k : Bool → Prop) : Prop := ∀ (e : En) (F : Hp) (σ : St) (H : Hp), State Y e F σ H Γ → ∀ Q : Bool → Hp → Prop, (∀ b F' H', k b → Gr F H F' H' → Q b H') → t σ H Q
def RA (Y : YC) (ta : TA) (Γ : List Cell) (k : List Cell → Prop) : Prop := ∀ (e : En) (F : Hp) (σ : St) (H : Hp), State Y e F σ H Γ → ∀ Q : List V → Hp → Prop, (∀ vs F' H' cs, k cs → Gr F H F' H' → Slots Y.g H' (vs.map some) cs [] → Q vs H') → ta σ H Q
def WA (Y : YC) (ta : TA) (Γ : List Cell) (k : List Cell → Prop) : Prop := ∀ (e : En) (F : Hp) (σ : St) (H : Hp), State Y e F σ H Γ → ∀ Q : List V → Hp → Prop, (∀ vs F' H' cs, k cs → Gr F H F' H' → Slots Y.g F' (vs.map some) cs [] → Q vs H') → ta σ H Q

section
variable {C : GCtx} {Y : YC} {Γ : List Cell} {te ta tb tc : TE} {t u : TT} {α β γ : Type} {d1 : Dat α} {d : Dat α} {d2 : Dat β} {d3 : Dat γ}

theorem r_of_w {k : α → Prop} (h : W Y te Γ d k) : R Y te Γ d k := fun e F σ H s Q q => h e F σ H s Q fun v F' H' x kx g r => q v F' H' x kx g (d.mono g.fh r)
theorem w_of_r [i : @Imm α d] {k : α → Prop} (h : R Y te Γ d k) : W Y te Γ d k := fun e F σ H s Q q => h e F σ H s Q fun v F' H' x kx g r => q v F' H' x kx g (i.imm g.tp r)
theorem w_mono {k k' : α → Prop} (h : W Y te Γ d k) (m : ∀ x, k x → k' x) : W Y te Γ d k' := fun e F σ H s Q q => h e F σ H s Q fun v F' H' x kx g r => q v F' H' x (m x kx) g r
theorem t_mono {k k' : Bool → Prop} (h : T Y t Γ k) (m : ∀ x, k x → k' x) : T Y t Γ k' := fun e F σ H s Q q => h e F σ H s Q fun b F' H' kx g => q b F' H' (m b kx) g
/-- what is owned and new is frozen at once -/
theorem w_of_o {od : @OD α d} {k : α → Prop} (h : O Y te Γ od k) : W Y te Γ d k := fun e F σ H s Q q => h e F σ H s Q fun v F' H' L' x kx g r => by
  have g1 : Wk ⟨F, H, []⟩ F' (L' ++ []) H' := by rw [List.append_nil]; exact g
  have g2 : Gr F H (plus F' L') H' := g1.freeze fun p hp z => nomatch z
  refine q v _ H' x kx g2 (od.view r (same_plus (fun p hp => (g.ow p hp).1) g.nd) (plus_get (fun p hp => (g.ow p hp).1) g.nd))

/-! names and constants -/
theorem w_var {i : Nat} {x : α} {k : α → Prop} (h : Γ[i]? = some (.val d x)) (hk : k x) : W Y (tVar i) Γ d k := fun e F σ H s Q q => by
  obtain ⟨v, e1, r⟩ := s.val h
  exact ⟨v, e1, q v F H x hk s.base r⟩
theorem r_var {i : Nat} {x : α} {k : α → Prop} (h : Γ[i]? = some (.val d x)) (hk : k x) : R Y (tVar i) Γ d k := r_of_w (w_var h hk)
theorem r_varO {od : @OD α d} {pin : Option V} {i : Nat} {x : α} {k : α → Prop} (h : Γ[i]? = some (.own d od pin x)) (hk : k x) : R Y (tVar i) Γ d k := fun e F σ H s Q q => by
  obtain ⟨v, e1, r⟩ := s.own h
  exact ⟨v, e1, q v F H x hk s.base r⟩
theorem w_int {n : Int} {k : Int → Prop} (hk : k n) : W Y (tC (.int n)) Γ dInt k := fun e F σ H s Q q => q _ F H n hk s.base rfl
theorem w_bl {n : Bool} {k : Bool → Prop} (hk : k n) : W Y (tC (.bl n)) Γ dBool k := fun e F σ H s Q q => q _ F H n hk s.base rfl
theorem w_str {n : Str} {k : Str → Prop} (hk : k n) : W Y (tC (.str n)) Γ dStr k := fun e F σ H s Q q => q _ F H n hk s.base rfl
theorem w_non {k : Unit → Prop} (hk : k ()) : W Y (tC .non) Γ dUnit k := fun e F σ H s Q q => q _ F H () hk s.base rfl
theorem w_nonO {k : Opt α → Prop} (hk : k .none) : W Y (tC .non) Γ (dOpt (d := d)) k := fun e F σ H s Q q => q _ F H .none hk s.base rfl
theorem w_some {k : Opt α → Prop} (h : W Y te Γ d fun x => k (.some x)) : W Y te Γ (dOpt (d := d)) k := fun e F σ H s Q q => h e F σ H s Q fun v F' H' x kx g r => q v F' H' (.some x) kx g r

/-! two operands, a scalar back -/
theorem w_op {r : R2} {k : γ → Prop} (h : R Y ta Γ d1 fun x => R Y tb Γ d2 fun y => ∃ z, k z ∧ ∀ v1 v2 F H (Q : VK), Gr F H F H → d1.rep Y.g H v1 x → d2.rep Y.g H v2 y → (∀ v F' H', Gr F H F' H' → d3.rep Y.g F' v z → Q v H') → r v1 v2 H Q) : W Y (tOp r ta tb) Γ d3 k :=
  fun e F σ H s Q q => h e F σ H s _ fun v1 F1 H1 x h1 g1 r1 => h1 e F1 σ H1 (s.grow g1) _ fun v2 F2 H2 y ⟨z, kz, hz⟩ g2 r2 =>
    hz v1 v2 F2 H2 Q g2.base (d1.mono g2.hh0 r1) r2 fun v F' H' g3 r3 => q v F' H' z kz ((g1.trans0 g2).trans0 g3) r3
theorem w_ii {r : R2} {f : Int → Int → γ} {P : Int → Int → Prop} {ec : γ → V} {k : γ → Prop} (hd : ∀ F z, d3.rep Y.g F (ec z) z) (hr : ∀ i j H (Q : VK), P i j → Q (ec (f i j)) H → r (.int i) (.int j) H Q)
    (h : R Y ta Γ dInt fun x => R Y tb Γ dInt fun y => P x y ∧ k (f x y)) : W Y (tOp r ta tb) Γ d3 k :=
  fun e F σ H s Q q => h e F σ H s _ fun v1 F1 H1 x h1 g1 r1 => h1 e F1 σ H1 (s.grow g1) _ fun v2 F2 H2 y ⟨p, kz⟩ g2 r2 => by
    cases (show v1 = .int x from r1)
    cases (show v2 = .int y from r2)
    exact hr x y H2 Q p (q _ F2 H2 _ kz (g1.trans0 g2) (hd F2 _))
theorem w_i0 {r : R2} {f : Int → Int → γ} {ec : γ → V} {k : γ → Prop} (hd : ∀ F z, d3.rep Y.g F (ec z) z) (hr : ∀ i j H (Q : VK), Q (ec (f i j)) H → r (.int i) (.int j) H Q)
    (h : R Y ta Γ dInt fun x => R Y tb Γ dInt fun y => k (f x y)) : W Y (tOp r ta tb) Γ d3 k :=
  fun e F σ H s Q q => h e F σ H s _ fun v1 F1 H1 x h1 g1 r1 => h1 e F1 σ H1 (s.grow g1) _ fun v2 F2 H2 y kz g2 r2 => by
    cases (show v1 = .int x from r1)
    cases (show v2 = .int y from r2)
    exact hr x y H2 Q (q _ F2 H2 _ kz (g1.trans0 g2) (hd F2 _))
section
variable {k : Int → Prop} {kb : Bool → Prop}
theorem w_add (h : R Y ta Γ dInt fun x => R Y tb Γ dInt fun y => k (x + y)) : W Y (tOp (rI0 fun i j => .int (i + j)) ta tb) Γ dInt k := w_i0 (ec := V.int) (fun _ _ => rfl) (fun i j H Q q => ⟨i, j, rfl, rfl, q⟩) h
theorem w_sub (h : R Y ta Γ dInt fun x => R Y tb Γ dInt fun y => k (x - y)) : W Y (tOp (rI0 fun i j => .int (i - j)) ta tb) Γ dInt k := w_i0 (ec := V.int) (fun _ _ => rfl) (fun i j H Q q => ⟨i, j, rfl, rfl, q⟩) h
theorem w_mul (h : R Y ta Γ dInt fun x => R Y tb Γ dInt fun y => CMul x y ∧ k (x * y)) : W Y (tOp (rI CMul fun i j => .int (i * j)) ta tb) Γ dInt k := w_ii (ec := V.int) (fun _ _ => rfl) (fun i j H Q p q => ⟨i, j, rfl, rfl, p, q⟩) h
theorem w_mod (h : R Y ta Γ dInt fun x => R Y tb Γ dInt fun y => 0 < y ∧ k (x % y)) : W Y (tOp (rI (fun _ j => 0 < j) fun i j => .int (i % j)) ta tb) Γ dInt k := w_ii (P := fun _ j => 0 < j) (ec := V.int) (fun _ _ => rfl) (fun i j H Q p q => ⟨i, j, rfl, rfl, p, q⟩) h
theorem w_fdiv (h : R Y ta Γ dInt fun x => R Y tb Γ dInt fun y => CDiv x y ∧ k (x / y)) : W Y (tOp (rI CDiv fun i j => .int (i / j)) ta tb) Γ dInt k := w_ii (ec := V.int) (fun _ _ => rfl) (fun i j H Q p q => ⟨i, j, rfl, rfl, p, q⟩) h
theorem w_pow (h : R Y ta Γ dInt fun x => R Y tb Γ dInt fun y => CPow x y ∧ k (x ^ y.toNat)) : W Y (tOp (rI CPow fun i j => .int (i ^ j.toNat)) ta tb) Γ dInt k := w_ii (ec := V.int) (fun _ _ => rfl) (fun i j H Q p q => ⟨i, j, rfl, rfl, p, q⟩) h
theorem w_lt (h : R Y ta Γ dInt fun x => R Y tb Γ dInt fun y => kb (decide (x < y))) : W Y (tOp (rI0 fun i j => .bl (decide (i < j))) ta tb) Γ dBool kb := w_i0 (f := fun i j => decide (i < j)) (ec := V.bl) (fun _ _ => rfl) (fun i j H Q q => ⟨i, j, rfl, rfl, q⟩) h
theorem w_le (h : R Y ta Γ dInt fun x => R Y tb Γ dInt fun y => kb (decide (x ≤ y))) : W Y (tOp (rI0 fun i j => .bl (decide (i ≤ j))) ta tb) Γ dBool kb := w_i0 (f := fun i j => decide (i ≤ j)) (ec := V.bl) (fun _ _ => rfl) (fun i j H Q q => ⟨i, j, rfl, rfl, q⟩) h
theorem w_gt (h : R Y ta Γ dInt fun x => R Y tb Γ dInt fun y => kb (decide (y < x))) : W Y (tOp (rI0 fun i j => .bl (decide (j < i))) ta tb) Γ dBool kb := w_i0 (f := fun i j => decide (j < i)) (ec := V.bl) (fun _ _ => rfl) (fun i j H Q q => ⟨i, j, rfl, rfl, q⟩) h
theorem w_ge (h : R Y ta Γ dInt fun x => R Y tb Γ dInt fun y => kb (decide (y ≤ x))) : W Y (tOp (rI0 fun i j => .bl (decide (j ≤ i))) ta tb) Γ dBool kb := w_i0 (f := fun i j => decide (j ≤ i)) (ec := V.bl) (fun _ _ => rfl) (fun i j H Q q => ⟨i, j, rfl, rfl, q⟩) h
theorem w_eqI (h : R Y ta Γ dInt fun x => R Y tb Γ dInt fun y => kb (decide (x = y))) : W Y (tOp rEq ta tb) Γ dBool kb := w_i0 (f := fun i j => decide (i = j)) (ec := V.bl) (fun _ _ => rfl) (fun i j H Q q => ⟨rfl, by
  rw [show decide (V.int i = V.int j) = decide (i = j) from decide_eq_decide.mpr ⟨fun z => V.int.inj z, fun z => by rw [z]⟩]; exact q⟩) h
theorem w_neI (h : R Y ta Γ dInt fun x => R Y tb Γ dInt fun y => kb (!decide (x = y))) : W Y (tOp rNe ta tb) Γ dBool kb := w_i0 (f := fun i j => !decide (i = j)) (ec := V.bl) (fun _ _ => rfl) (fun i j H Q q => ⟨rfl, by
  rw [show decide (V.int i = V.int j) = decide (i = j) from decide_eq_decide.mpr ⟨fun z => V.int.inj z, fun z => by rw [z]⟩]; exact q⟩) h
theorem w_eqB (h : R Y ta Γ dBool fun x => R Y tb Γ dBool fun y => kb (decide (x = y))) : W Y (tOp rEq ta tb) Γ dBool kb := w_op (d3 := dBool) fun e F σ H s Q q => h e F σ H s Q fun v F' H' x kx g r => q v F' H' x (fun e F σ H s Q q => kx e F σ H s Q fun v F' H' y ky g r => q v F' H' y ⟨_, ky, fun v1 v2 F H Q g r1 r2 q => by
  cases (show v1 = .bl x from r1); cases (show v2 = .bl y from r2)
  exact ⟨rfl, by rw [show decide (V.bl x = V.bl y) = decide (x = y) from decide_eq_decide.mpr ⟨fun z => V.bl.inj z, fun z => by rw [z]⟩]; exact q _ F H g rfl⟩⟩ g r) g r
theorem w_neB (h : R Y ta Γ dBool fun x => R Y tb Γ dBool fun y => kb (!decide (x = y))) : W Y (tOp rNe ta tb) Γ dBool kb := w_op (d3 := dBool) fun e F σ H s Q q => h e F σ H s Q fun v F' H' x kx g r => q v F' H' x (fun e F σ H s Q q => kx e F σ H s Q fun v F' H' y ky g r => q v F' H' y ⟨_, ky, fun v1 v2 F H Q g r1 r2 q => by
  cases (show v1 = .bl x from r1); cases (show v2 = .bl y from r2)
  exact ⟨rfl, by rw [show decide (V.bl x = V.bl y) = decide (x = y) from decide_eq_decide.mpr ⟨fun z => V.bl.inj z, fun z => by rw [z]⟩]; exact q _ F H g rfl⟩⟩ g r) g r
theorem w_neg (h : R Y ta Γ dInt fun x => k (-x)) : W Y (tUn (rU fun i => .int (-i)) ta) Γ dInt k := fun e F σ H s Q q => h e F σ H s _ fun v F' H' x kx g r => by
  cases (show v = .int x from r)
  exact ⟨x, rfl, q _ F' H' _ kx g rfl⟩
end

/-! tests -/
theorem t_test {k : Bool → Prop} (h : R Y te Γ dBool k) : T Y (tTest te) Γ k := fun e F σ H s Q q => h e F σ H s _ fun v F' H' x kx g r => ⟨x, r, q x F' H' kx g⟩
theorem t_B {k : Bool → Prop} (h : R Y te Γ dBool k) : T Y (tB te) Γ k := fun e F σ H s Q q => h e F σ H s _ fun v F' H' x kx g r => ⟨x, r, q x F' H' kx g⟩
theorem t_not {k : Bool → Prop} (h : T Y t Γ fun b => k (!b)) : T Y (tNot t) Γ k := fun e F σ H s Q q => h e F σ H s _ fun b F' H' kx g => q (!b) F' H' kx g
theorem t_and {k : Bool → Prop} (h : T Y t Γ fun b => (b = true → T Y u Γ k) ∧ (b = false → k false)) : T Y (tAnd t u) Γ k := fun e F σ H s Q q => h e F σ H s _ fun b F' H' kx g => by
  cases b with
  | true => exact kx.1 rfl e F' σ H' (s.grow g) Q fun b F2 H2 kb g2 => q b F2 H2 kb (g.trans0 g2)
  | false => exact q false F' H' (kx.2 rfl) g
theorem t_or {k : Bool → Prop} (h : T Y t Γ fun b => (b = true → k true) ∧ (b = false → T Y u Γ k)) : T Y (tOr t u) Γ k := fun e F σ H s Q q => h e F σ H s _ fun b F' H' kx g => by
  cases b with
  | false => exact kx.2 rfl e F' σ H' (s.grow g) Q fun b F2 H2 kb g2 => q b F2 H2 kb (g.trans0 g2)
  | true => exact q true F' H' (kx.1 rfl) g
/-- .. where what comes out is a function of what stands there -/
theorem t_and' {a b : Bool} (h : T Y t Γ (· = a)) (h' : a = true → T Y u Γ (· = b)) : T Y (tAnd t u) Γ (· = (a && b)) := t_and (t_mono h fun x e => ⟨fun z => by
  subst e; subst z; exact h' rfl, fun z => by subst e; subst z; rfl⟩)
theorem t_or' {a b : Bool} (h : T Y t Γ (· = a)) (h' : a = false → T Y u Γ (· = b)) : T Y (tOr t u) Γ (· = (a || b)) := t_or (t_mono h fun x e => ⟨fun z => by
  subst e; subst z; rfl, fun z => by subst e; subst z; exact h' rfl⟩)
theorem t_eq {a : Bool} {k : Bool → Prop} (h : T Y t Γ (· = a)) (hk : k a) : T Y t Γ k := t_mono h fun x e => by subst e; exact hk
theorem w_eq {a : α} {k : α → Prop} (h : W Y te Γ d (· = a)) (hk : k a) : W Y te Γ d k := w_mono h fun x e => by subst e; exact hk
/-! values by tests -/
theorem w_andV {k : Bool → Prop} (h : R Y ta Γ dBool fun a => (a = true → W Y tb Γ dBool k) ∧ (a = false → k false)) : W Y (tAndV ta tb) Γ dBool k := fun e F σ H s Q q => h e F σ H s _ fun v F' H' x kx g r => ⟨x, r, by
  cases x with
  | true => exact kx.1 rfl e F' σ H' (s.grow g) Q fun v F2 H2 x kb g2 r => q v F2 H2 x kb (g.trans0 g2) r
  | false => exact q _ F' H' false (kx.2 rfl) g rfl⟩
theorem w_orV {k : Bool → Prop} (h : R Y ta Γ dBool fun a => (a = true → k true) ∧ (a = false → W Y tb Γ dBool k)) : W Y (tOrV ta tb) Γ dBool k := fun e F σ H s Q q => h e F σ H s _ fun v F' H' x kx g r => ⟨x, r, by
  cases x with
  | false => exact kx.2 rfl e F' σ H' (s.grow g) Q fun v F2 H2 x kb g2 r => q v F2 H2 x kb (g.trans0 g2) r
  | true => exact q _ F' H' true (kx.1 rfl) g rfl⟩
theorem r_mono {k k' : α → Prop} (h : R Y te Γ d k) (m : ∀ x, k x → k' x) : R Y te Γ d k' := fun e F σ H s Q q => h e F σ H s Q fun v F' H' x kx g r => q v F' H' x (m x kx) g r
theorem w_andV' {a b : Bool} (h : R Y ta Γ dBool (· = a)) (h' : a = true → W Y tb Γ dBool (· = b)) : W Y (tAndV ta tb) Γ dBool (· = (a && b)) := w_andV (r_mono h fun x e => ⟨fun z => by
  subst e; subst z; exact h' rfl, fun z => by subst e; subst z; rfl⟩)
theorem w_orV' {a b : Bool} (h : R Y ta Γ dBool (· = a)) (h' : a = false → W Y tb Γ dBool (· = b)) : W Y (tOrV ta tb) Γ dBool (· = (a || b)) := w_orV (r_mono h fun x e => ⟨fun z => by
  subst e; subst z; rfl, fun z => by subst e; subst z; exact h' rfl⟩)
theorem w_notV {k : Bool → Prop} (h : R Y ta Γ dBool fun a => k (!a)) : W Y (tNotV ta) Γ dBool k := fun e F σ H s Q q => h e F σ H s _ fun v F' H' x kx g r => ⟨x, r, q _ F' H' (!x) kx g rfl⟩
theorem w_if {k : α → Prop} (h : T Y t Γ fun b => (b = true → W Y ta Γ d k) ∧ (b = false → W Y tb Γ d k)) : W Y (tIf t ta tb) Γ d k := fun e F σ H s Q q => h e F σ H s _ fun b F' H' kx g => by
  cases b with
  | true => exact kx.1 rfl e F' σ H' (s.grow g) Q fun v F2 H2 x kb g2 r => q v F2 H2 x kb (g.trans0 g2) r
  | false => exact kx.2 rfl e F' σ H' (s.grow g) Q fun v F2 H2 x kb g2 r => q v F2 H2 x kb (g.trans0 g2) r

/-! arguments -/
theorem ra_nil {k : List Cell → Prop} (hk : k []) : RA Y tNil Γ k := fun e F σ H s Q q => q [] F H [] hk s.base .nil
theorem ra_cons {tr : TA} {k : List Cell → Prop} (h : R Y te Γ d fun x => RA Y tr Γ fun cs => k (.val d x :: cs)) : RA Y (tCons te tr) Γ k := fun e F σ H s Q q => h e F σ H s _ fun v F1 H1 x h1 g1 r1 => h1 e F1 σ H1 (s.grow g1) _ fun vs F2 H2 cs kc g2 r2 =>
  q (v :: vs) F2 H2 (.val d x :: cs) kc (g1.trans0 g2) (Slots.cons (L := []) ⟨rfl, v, rfl, d.mono g2.hh0 r1⟩ r2)
theorem wa_nil {k : List Cell → Prop} (hk : k []) : WA Y tNil Γ k := fun e F σ H s Q q => q [] F H [] hk s.base .nil
theorem wa_cons {tr : TA} {k : List Cell → Prop} (h : W Y te Γ d fun x => WA Y tr Γ fun cs => k (.val d x :: cs)) : WA Y (tCons te tr) Γ k := fun e F σ H s Q q => h e F σ H s _ fun v F1 H1 x h1 g1 r1 => h1 e F1 σ H1 (s.grow g1) _ fun vs F2 H2 cs kc g2 r2 =>
  q (v :: vs) F2 H2 (.val d x :: cs) kc (g1.trans0 g2) (Slots.cons (L := []) ⟨rfl, v, rfl, d.mono g2.ff r1⟩ r2)

/-! built-ins of numbers -/
theorem w_abs {k : Int → Prop} (h : R Y ta Γ dInt fun x => k (if x < 0 then -x else x)) : W Y (tCB (fun xs H Q => ∃ i, xs = [.int i] ∧ Q (.int (if i < 0 then -i else i)) H) (tCons ta tNil)) Γ dInt k := fun e F σ H s Q q => h e F σ H s _ fun v F' H' x kx g r => by
  cases (show v = .int x from r)
  exact ⟨x, rfl, q _ F' H' _ kx g rfl⟩
theorem w_int1 {k : Int → Prop} (h : R Y ta Γ dInt k) : W Y (tCB (fun xs H Q => (∃ i, xs = [.int i] ∧ Q (.int i) H) ∨ ∃ k, xs = [.bl k] ∧ Q (.int (if k then 1 else 0)) H) (tCons ta tNil)) Γ dInt k := fun e F σ H s Q q => h e F σ H s _ fun v F' H' x kx g r => by
  cases (show v = .int x from r)
  exact .inl ⟨x, rfl, q _ F' H' _ kx g rfl⟩
theorem w_min2 {k : Int → Prop} (h : R Y ta Γ dInt fun x => R Y tb Γ dInt fun y => k (if y < x then y else x)) : W Y (tCB (fun xs H Q => ∃ i j, xs = [.int i, .int j] ∧ Q (.int (if j < i then j else i)) H) (tCons ta (tCons tb tNil))) Γ dInt k := fun e F σ H s Q q => h e F σ H s _ fun v1 F1 H1 x h1 g1 r1 => h1 e F1 σ H1 (s.grow g1) _ fun v2 F2 H2 y ky g2 r2 => by
  cases (show v1 = .int x from r1)
  cases (show v2 = .int y from r2)
  exact ⟨x, y, rfl, q _ F2 H2 _ ky (g1.trans0 g2) rfl⟩
theorem w_max2 {k : Int → Prop} (h : R Y ta Γ dInt fun x => R Y tb Γ dInt fun y => k (if y > x then y else x)) : W Y (tCB (fun xs H Q => ∃ i j, xs = [.int i, .int j] ∧ Q (.int (if j > i then j else i)) H) (tCons ta (tCons tb tNil))) Γ dInt k := fun e F σ H s Q q => h e F σ H s _ fun v1 F1 H1 x h1 g1 r1 => h1 e F1 σ H1 (s.grow g1) _ fun v2 F2 H2 y ky g2 r2 => by
  cases (show v1 = .int x from r1)
  cases (show v2 = .int y from r2)
  exact ⟨x, y, rfl, q _ F2 H2 _ ky (g1.trans0 g2) rfl⟩

/-! lists and tuples that are read -/
theorem w_len {k : Int → Prop} (h : R Y ta Γ (dList (d := d)) fun xs => k (xs.length : Int)) : W Y (tCB (fun xs H Q => ∃ p ys, xs = [.ref p] ∧ (SqL Y.K H p ys ∨ SqT Y.K H p ys) ∧ Q (.int ys.length) H) (tCons ta tNil)) Γ dInt k := fun e F σ H s Q q => h e F σ H s _ fun v F' H' x kx g ⟨a, vs, e1, h1, r⟩ => by
  subst e1
  exact ⟨a, vs, rfl, .inl h1, q _ F' H' _ (by rw [r.len]; exact kx) g rfl⟩
theorem w_lenT {k : Int → Prop} (h : R Y ta Γ (dTup (d := d)) fun xs => k (xs.l.length : Int)) : W Y (tCB (fun xs H Q => ∃ p ys, xs = [.ref p] ∧ (SqL Y.K H p ys ∨ SqT Y.K H p ys) ∧ Q (.int ys.length) H) (tCons ta tNil)) Γ dInt k := fun e F σ H s Q q => h e F σ H s _ fun v F' H' x kx g ⟨a, vs, e1, h1, r⟩ => by
  subst e1
  exact ⟨a, vs, rfl, .inr h1.sq, q _ F' H' _ (by rw [r.len]; exact kx) g rfl⟩
theorem atI_rep {F : Hp} {vs : List V} {xs : List α} {i : Int} {x : α} (r : Reps d C F vs xs) (h : atI xs i = some x) : ∃ v, atI vs i = some v ∧ d.rep C F v x := by
  unfold atI at h ⊢
  rw [r.len]
  cases e : ixN xs.length i with
  | none => rw [e] at h; cases h
  | some j => rw [e] at h; exact r.get h
theorem w_ix {k : α → Prop} (h : W Y ta Γ (dList (d := d)) fun xs => R Y tb Γ dInt fun i => ∃ x, atI xs i = some x ∧ k x) : W Y (tOp (rIxL Y.K) ta tb) Γ d k := fun e F σ H s Q q => h e F σ H s _ fun v1 F1 H1 xs h1 g1 ⟨a, vs, e1, hs, r⟩ => h1 e F1 σ H1 (s.grow g1) _ fun v2 F2 H2 i ⟨x, hx, kx⟩ g2 r2 => by
  subst e1
  cases (show v2 = .int i from r2)
  obtain ⟨v, hv, rv⟩ := atI_rep r hx
  exact ⟨a, vs, i, v, rfl, rfl, (g1.fh.trans g2.hh0).seq hs, hv, q _ F2 H2 x kx (g1.trans0 g2) (d.mono g2.ff rv)⟩
theorem w_ixT {k : α → Prop} (h : W Y ta Γ (dTup (d := d)) fun xs => R Y tb Γ dInt fun i => ∃ x, atI xs.l i = some x ∧ k x) : W Y (tOp (rIxT Y.K) ta tb) Γ d k := fun e F σ H s Q q => h e F σ H s _ fun v1 F1 H1 xs h1 g1 ⟨a, vs, e1, hs, r⟩ => h1 e F1 σ H1 (s.grow g1) _ fun v2 F2 H2 i ⟨x, hx, kx⟩ g2 r2 => by
  subst e1
  cases (show v2 = .int i from r2)
  obtain ⟨v, hv, rv⟩ := atI_rep r hx
  exact ⟨a, vs, i, v, rfl, rfl, (hs.mono (g2.ff.trans g2.fh)).sq, hv, q _ F2 H2 x kx (g1.trans0 g2) (d.mono g2.ff rv)⟩
/-- an item of an owned list -/
theorem w_ixO {pin : Option V} {i : Nat} {xs : List α} {k : α → Prop} (h : Γ[i]? = some (.own (dList (d := d)) (oList (d := d)) pin xs)) (hk : R Y tb Γ dInt fun i => ∃ x, atI xs i = some x ∧ k x) : W Y (tOp (rIxL Y.K) (tVar i) tb) Γ d k := fun e F σ H s Q q => by
  obtain ⟨_, L, kw, sl⟩ := id s
  obtain ⟨o, L1, Li, L2, e1, e2, ⟨v, rfl, _, a, vs, rfl, e3, r⟩, _⟩ := sl.get h
  have ha : H a = some (.lst vs) := (kw.ow (a, .lst vs) (by rw [e2, e3]; simp)).2.1
  refine ⟨.ref a, e1, hk e F σ H s _ fun v2 F2 H2 j ⟨x, hx, kx⟩ g2 r2 => ?_⟩
  cases (show v2 = .int j from r2)
  obtain ⟨v, hv, rv⟩ := atI_rep r hx
  exact ⟨a, vs, j, v, rfl, rfl, .inl (.inl (g2.hh0 _ _ ha)), hv, q _ F2 H2 x kx g2 (d.mono g2.ff rv)⟩
/-- .. read for the moment -/
theorem r_ix {k : α → Prop} (h : R Y ta Γ (dList (d := d)) fun xs => R Y tb Γ dInt fun i => ∃ x, atI xs i = some x ∧ k x) : R Y (tOp (rIxL Y.K) ta tb) Γ d k := fun e F σ H s Q q => h e F σ H s _ fun v1 F1 H1 xs h1 g1 ⟨a, vs, e1, hs, r⟩ => h1 e F1 σ H1 (s.grow g1) _ fun v2 F2 H2 i ⟨x, hx, kx⟩ g2 r2 => by
  subst e1
  cases (show v2 = .int i from r2)
  obtain ⟨v, hv, rv⟩ := atI_rep r hx
  exact ⟨a, vs, i, v, rfl, rfl, g2.hh0.seq hs, hv, q _ F2 H2 x kx (g1.trans0 g2) (d.mono g2.hh0 rv)⟩

/-! membership -/
class Flat (α : Type) [d : Dat α] where
  enc : α → V
  isEnc : ∀ {C : GCtx} {F : Hp} {v : V} {x : α}, d.rep C F v x → v = enc x
  flat : ∀ x, flatV (enc x) = true
  eqv : ∀ x y, eqV (enc x) (enc y) = true ↔ x = y
instance fInt : Flat Int := ⟨V.int, fun h => h, fun _ => rfl, fun x y => by simp [eqV]⟩
instance fStr : Flat Str := ⟨V.str, fun h => h, fun _ => rfl, fun x y => by simp [eqV]⟩
theorem Reps.enc [f : @Flat α d] {F : Hp} : ∀ {vs : List V} {xs : List α}, Reps d C F vs xs → vs = xs.map f.enc
  | [], [], _ => rfl
  | _ :: _, _ :: _, h => by rw [Reps.enc h.2, f.isEnc h.1]; rfl
  | [], _ :: _, h => h.elim
  | _ :: _, [], h => h.elim
theorem flat_all [f : @Flat α d] (xs : List α) : (xs.map f.enc).all flatV = true := by
  rw [List.all_map, List.all_eq_true]
  exact fun x _ => f.flat x
theorem inV_flat [f : @Flat α d] [DecidableEq α] (x : α) (xs : List α) : inV (f.enc x) (xs.map f.enc) = decide (x ∈ xs) := by
  unfold inV
  rw [List.any_map]
  by_cases h : x ∈ xs
  · rw [decide_eq_true h, List.any_eq_true]
    exact ⟨x, h, (f.eqv x x).mpr rfl⟩
  · rw [decide_eq_false h, List.any_eq_false]
    intro y hy z
    have e := (f.eqv y x).mp z
    subst e
    exact h hy
theorem w_in [f : @Flat α d] [DecidableEq α] {k : Bool → Prop} (h : R Y ta Γ d fun x => R Y tb Γ (dList (d := d)) fun xs => k (decide (x ∈ xs))) : W Y (tOp (rIn Y.K false) ta tb) Γ dBool k := fun e F σ H s Q q => h e F σ H s _ fun v1 F1 H1 x h1 g1 r1 => h1 e F1 σ H1 (s.grow g1) _ fun v2 F2 H2 xs kx g2 ⟨a, vs, e1, hs, r⟩ => by
  subst e1
  cases f.isEnc r1
  cases r.enc
  exact ⟨a, _, rfl, .inl hs, f.flat x, flat_all xs, q _ F2 H2 _ kx (g1.trans0 g2) (by rw [inV_flat x xs]; rfl)⟩
theorem w_notin [f : @Flat α d] [DecidableEq α] {k : Bool → Prop} (h : R Y ta Γ d fun x => R Y tb Γ (dList (d := d)) fun xs => k (!decide (x ∈ xs))) : W Y (tOp (rIn Y.K true) ta tb) Γ dBool k := fun e F σ H s Q q => h e F σ H s _ fun v1 F1 H1 x h1 g1 r1 => h1 e F1 σ H1 (s.grow g1) _ fun v2 F2 H2 xs kx g2 ⟨a, vs, e1, hs, r⟩ => by
  subst e1
  cases f.isEnc r1
  cases r.enc
  exact ⟨a, _, rfl, .inl hs, f.flat x, flat_all xs, q _ F2 H2 _ kx (g1.trans0 g2) (by rw [inV_flat x xs]; rfl)⟩
theorem w_inT [f : @Flat α d] [DecidableEq α] {k : Bool → Prop} (h : R Y ta Γ d fun x => R Y tb Γ (dTup (d := d)) fun xs => k (decide (x ∈ xs.l))) : W Y (tOp (rIn Y.K false) ta tb) Γ dBool k := fun e F σ H s Q q => h e F σ H s _ fun v1 F1 H1 x h1 g1 r1 => h1 e F1 σ H1 (s.grow g1) _ fun v2 F2 H2 xs kx g2 ⟨a, vs, e1, hs, r⟩ => by
  subst e1
  cases f.isEnc r1
  cases r.enc
  exact ⟨a, _, rfl, .inr hs.sq, f.flat x, flat_all xs.l, q _ F2 H2 _ kx (g1.trans0 g2) (by rw [inV_flat x xs.l]; rfl)⟩
theorem w_notinT [f : @Flat α d] [DecidableEq α] {k : Bool → Prop} (h : R Y ta Γ d fun x => R Y tb Γ (dTup (d := d)) fun xs => k (!decide (x ∈ xs.l))) : W Y (tOp (rIn Y.K true) ta tb) Γ dBool k := fun e F σ H s Q q => h e F σ H s _ fun v1 F1 H1 x h1 g1 r1 => h1 e F1 σ H1 (s.grow g1) _ fun v2 F2 H2 xs kx g2 ⟨a, vs, e1, hs, r⟩ => by
  subst e1
  cases f.isEnc r1
  cases r.enc
  exact ⟨a, _, rfl, .inr hs.sq, f.flat x, flat_all xs.l, q _ F2 H2 _ kx (g1.trans0 g2) (by rw [inV_flat x xs.l]; rfl)⟩

/-! tuples, lists made -/
theorem Gr.lay {F H : Hp} {p : Addr} {o : HO} (g : Gr F H F H) (hp : H p = none) : Gr F H (upd F p o) (upd H p o) := Wk.lay g hp
theorem w_tup2 {k : α × β → Prop} (h : W Y ta Γ d1 fun x => W Y tb Γ d2 fun y => k (x, y)) : W Y (tTup (tCons ta (tCons tb tNil))) Γ (dPair (d1 := d1) (d2 := d2)) k := fun e F σ H s Q q => h e F σ H s _ fun v1 F1 H1 x h1 g1 r1 => h1 e F1 σ H1 (s.grow g1) _ fun v2 F2 H2 y ky g2 r2 =>
  ⟨show 2 ≤ PySem.sizeLine by decide, fun p hp => by
    have g3 := Gr.lay (o := .tup [v1, v2]) g2.base hp
    exact q _ _ _ (x, y) ky ((g1.trans0 g2).trans0 g3) ⟨p, v1, v2, rfl, .inl upd_same, d1.mono (g2.ff.trans g3.ff) r1, d2.mono g3.ff r2⟩⟩
theorem w_tup3 {k : T3 α β γ → Prop} (h : W Y ta Γ d1 fun x => W Y tb Γ d2 fun y => W Y tc Γ d3 fun z => k ⟨x, y, z⟩) : W Y (tTup (tCons ta (tCons tb (tCons tc tNil)))) Γ (dT3 (d1 := d1) (d2 := d2) (d3 := d3)) k := fun e F σ H s Q q => h e F σ H s _ fun v1 F1 H1 x h1 g1 r1 => h1 e F1 σ H1 (s.grow g1) _ fun v2 F2 H2 y h2 g2 r2 =>
  h2 e F2 σ H2 ((s.grow g1).grow g2) _ fun v3 F3 H3 z kz g3 r3 =>
  ⟨show 3 ≤ PySem.sizeLine by decide, fun p hp => by
    have g4 := Gr.lay (o := .tup [v1, v2, v3]) g3.base hp
    exact q _ _ _ ⟨x, y, z⟩ kz (((g1.trans0 g2).trans0 g3).trans0 g4) ⟨p, v1, v2, v3, rfl, .inl upd_same, d1.mono ((g2.ff.trans g3.ff).trans g4.ff) r1, d2.mono (g3.ff.trans g4.ff) r2, d3.mono g4.ff r3⟩⟩
theorem w_tup4 {δ : Type} {d4 : Dat δ} {td : TE} {k : T4 α β γ δ → Prop} (h : W Y ta Γ d1 fun x => W Y tb Γ d2 fun y => W Y tc Γ d3 fun z => W Y td Γ d4 fun u => k ⟨x, y, z, u⟩) : W Y (tTup (tCons ta (tCons tb (tCons tc (tCons td tNil))))) Γ (dT4 (d1 := d1) (d2 := d2) (d3 := d3) (d4 := d4)) k := fun e F σ H s Q q => h e F σ H s _ fun v1 F1 H1 x h1 g1 r1 => h1 e F1 σ H1 (s.grow g1) _ fun v2 F2 H2 y h2 g2 r2 =>
  h2 e F2 σ H2 ((s.grow g1).grow g2) _ fun v3 F3 H3 z h3 g3 r3 => h3 e F3 σ H3 (((s.grow g1).grow g2).grow g3) _ fun v4 F4 H4 u ku g4 r4 =>
  ⟨show 4 ≤ PySem.sizeLine by decide, fun p hp => by
    have g5 := Gr.lay (o := .tup [v1, v2, v3, v4]) g4.base hp
    exact q _ _ _ ⟨x, y, z, u⟩ ku ((((g1.trans0 g2).trans0 g3).trans0 g4).trans0 g5) ⟨p, v1, v2, v3, v4, rfl, .inl upd_same, d1.mono (((g2.ff.trans g3.ff).trans g4.ff).trans g5.ff) r1, d2.mono ((g3.ff.trans g4.ff).trans g5.ff) r2, d3.mono (g4.ff.trans g5.ff) r3, d4.mono g5.ff r4⟩⟩
/-- items that are alike, for a display -/
def WL (Y : YC) (ta : TA) (Γ : List Cell) {α : Type} (d : Dat α) (k : List α → Prop) : Prop := ∀ (e : En) (F : Hp) (σ : St) (H : Hp), State Y e F σ H Γ → ∀ Q : List V → Hp → Prop, (∀ vs F' H' xs, k xs → Gr F H F' H' → Reps d Y.g F' vs xs → Q vs H') → ta σ H Q
theorem wl_nil {k : List α → Prop} (hk : k []) : WL Y tNil Γ d k := fun e F σ H s Q q => q [] F H [] hk s.base trivial
theorem wl_cons {tr : TA} {k : List α → Prop} (h : W Y te Γ d fun x => WL Y tr Γ d fun xs => k (x :: xs)) : WL Y (tCons te tr) Γ d k := fun e F σ H s Q q => h e F σ H s _ fun v F1 H1 x h1 g1 r1 => h1 e F1 σ H1 (s.grow g1) _ fun vs F2 H2 xs kc g2 r2 =>
  q (v :: vs) F2 H2 (x :: xs) kc (g1.trans0 g2) ⟨d.mono g2.ff r1, r2⟩
theorem o_new {F H : Hp} {L : LO} (g : Wk ⟨F, H, []⟩ F [] H) {p : Addr} {vs : List V} {xs : List α} (hp : H p = none) (r : Reps d C F vs xs) : Wk ⟨F, H, []⟩ F [(p, .lst vs)] (upd H p (.lst vs)) ∧ (oList (d := d)).orep C F (.ref p) xs [(p, .lst vs)] :=
  ⟨g.own hp (fun _ z => by cases z), p, vs, rfl, rfl, r⟩
theorem o_lst {tl : TA} {k : List α → Prop} (h : WL Y tl Γ d fun xs => xs.length ≤ PySem.sizeLine ∧ k xs) : O Y (tLst tl) Γ (oList (d := d)) k := fun e F σ H s Q q => h e F σ H s _ fun vs F' H' xs ⟨hl, kx⟩ g r =>
  ⟨by rw [r.len]; exact hl, fun p hp => by
    obtain ⟨h1, h2⟩ := o_new (L := []) g.base hp r
    have h3 := g.trans h1
    exact q _ F' _ [(p, .lst vs)] xs kx (by simpa using h3) h2⟩
theorem o_nil {k : List α → Prop} (hk : k []) : O Y (tLst tNil) Γ (oList (d := d)) k := o_lst (wl_nil ⟨Nat.zero_le _, hk⟩)
/-- list(xs) -/
theorem o_listOf {k : List α → Prop} (h : W Y ta Γ (dList (d := d)) k) : O Y (tCB (fun xs H Q => ∃ p ys, xs = [.ref p] ∧ (SqL Y.K H p ys ∨ SqT Y.K H p ys) ∧ ∀ l, H l = none → Q (.ref l) (upd H l (.lst ys))) (tCons ta tNil)) Γ (oList (d := d)) k := fun e F σ H s Q q => h e F σ H s _ fun v F' H' xs kx g ⟨a, vs, e1, hs, r⟩ => by
  subst e1
  refine ⟨a, vs, rfl, .inl (g.fh.seq hs), fun l hl => ?_⟩
  obtain ⟨h1, h2⟩ := o_new (L := []) g.base hl r
  exact q _ F' _ _ xs kx (by simpa using g.trans h1) h2
theorem o_listOfT {k : List α → Prop} (h : W Y ta Γ (dTup (d := d)) fun xs => k xs.l) : O Y (tCB (fun xs H Q => ∃ p ys, xs = [.ref p] ∧ (SqL Y.K H p ys ∨ SqT Y.K H p ys) ∧ ∀ l, H l = none → Q (.ref l) (upd H l (.lst ys))) (tCons ta tNil)) Γ (oList (d := d)) k := fun e F σ H s Q q => h e F σ H s _ fun v F' H' xs kx g ⟨a, vs, e1, hs, r⟩ => by
  subst e1
  refine ⟨a, vs, rfl, .inr (hs.mono g.fh).sq, fun l hl => ?_⟩
  obtain ⟨h1, h2⟩ := o_new (L := []) g.base hl r
  exact q _ F' _ _ xs.l kx (by simpa using g.trans h1) h2
/-- list(xs), xs owned, its items standing still -/
theorem o_listOfO [i : @Imm α d] {k : List α → Prop} (h : R Y ta Γ (dList (d := d)) k) : O Y (tCB (fun xs H Q => ∃ p ys, xs = [.ref p] ∧ (SqL Y.K H p ys ∨ SqT Y.K H p ys) ∧ ∀ l, H l = none → Q (.ref l) (upd H l (.lst ys))) (tCons ta tNil)) Γ (oList (d := d)) k := fun e F σ H s Q q => h e F σ H s _ fun v F' H' xs kx g ⟨a, vs, e1, hs, r⟩ => by
  subst e1
  refine ⟨a, vs, rfl, .inl hs, fun l hl => ?_⟩
  obtain ⟨h1, h2⟩ := o_new (L := []) g.base hl (r.imm g.tp)
  exact q _ F' _ _ xs kx (by simpa using g.trans h1) h2
/-- tuple(xs) -/
theorem w_tupOf {k : Tup α → Prop} (h : W Y ta Γ (dList (d := d)) fun xs => k ⟨xs⟩) : W Y (tCB (fun xs H Q => ∃ p ys, xs = [.ref p] ∧ ((SqL Y.K H p ys ∧ ∀ l, H l = none → Q (.ref l) (upd H l (.tup ys))) ∨ (SqT Y.K H p ys ∧ Q (.ref p) H))) (tCons ta tNil)) Γ (dTup (d := d)) k := fun e F σ H s Q q => h e F σ H s _ fun v F' H' xs kx g ⟨a, vs, e1, hs, r⟩ => by
  subst e1
  refine ⟨a, vs, rfl, .inl ⟨g.fh.seq hs, fun l hl => ?_⟩⟩
  have g4 := Gr.lay (o := .tup vs) g.base hl
  exact q _ _ _ ⟨xs⟩ kx (g.trans0 g4) ⟨l, vs, rfl, .inl upd_same, r.mono g4.ff⟩
end
end G

/-! G3: statements, loops, calls, comprehensions. -/
namespace G
open PySem L2

/-! ### the state, more -/
section
variable {C : GCtx} {Y : YC} {e : En} {F F' : Hp} {σ : St} {H H' : Hp} {Γ : List Cell}
theorem State.mut {α : Type} {d : Dat α} {od : OD α} {x : α} {i : Nat} {pin : Option V} (s : State Y e F σ H Γ) (h : Γ[i]? = some (.own d od pin x)) : ∃ v Li rest, σ[i]? = some (some v) ∧ od.orep Y.g F v x Li ∧ Wk e F (Li ++ rest) H ∧
    ∀ F' H' Li' x', Same F F' → Wk e F' (Li' ++ rest) H' → od.orep Y.g F' v x' Li' → State Y e F' σ H' (Γ.set i (.own d od pin x')) := by
  obtain ⟨hx, L, k, sl⟩ := s
  obtain ⟨o, L1, Li, L2, e1, e2, ⟨v, rfl, hp, r⟩, f⟩ := sl.get h
  subst e2
  refine ⟨v, Li, L1 ++ L2, e1, r, k.front, fun F' H' Li' x' s' k' r' => ⟨hx, L1 ++ Li' ++ L2, k'.back, ?_⟩⟩
  have q := f F' (some v) (.own d od pin x') Li' s' ⟨v, rfl, hp, r'⟩
  have z : σ.set i (some v) = σ := by
    apply List.ext_getElem?
    intro j
    by_cases hj : i = j
    · subst hj
      obtain ⟨hlt, hv⟩ := List.getElem?_eq_some_iff.mp e1
      rw [List.getElem?_set_self hlt, e1]
    · rw [List.getElem?_set_ne hj]
  rw [z] at q
  exact q
/-- what is owned is frozen -/
theorem State.frz {α : Type} {d : Dat α} {od : OD α} {x : α} {i : Nat} (s : State Y e F σ H Γ) (hM : e.M = []) (h : Γ[i]? = some (.own d od none x)) : ∃ F', Same F F' ∧ State Y e F' σ H (Γ.set i (.val d x)) := by
  obtain ⟨hx, L, k, sl⟩ := s
  obtain ⟨o, L1, Li, L2, e1, e2, ⟨v, rfl, hp, r⟩, f⟩ := sl.get h
  subst e2
  have kf := k.front
  have ff : ∀ p ∈ Li, F p.1 = none := fun p hp => (kf.ow p (List.mem_append_left _ hp)).1
  have nd : (Li.map Prod.fst).Nodup := by
    have := kf.nd
    rw [List.map_append] at this
    exact (List.nodup_append.mp this).1
  have k2 := kf.freeze fun p _ z => by rw [hM] at z; cases z
  have sm := same_plus ff nd
  refine ⟨plus F Li, sm, hx, L1 ++ L2, k2, ?_⟩
  have q := f (plus F Li) (some v) (.val d x) [] sm ⟨rfl, v, rfl, od.view r sm (plus_get ff nd)⟩
  have z : σ.set i (some v) = σ := by
    apply List.ext_getElem?
    intro j
    by_cases hj : i = j
    · subst hj
      obtain ⟨hlt, hv⟩ := List.getElem?_eq_some_iff.mp e1
      rw [List.getElem?_set_self hlt, e1]
    · rw [List.getElem?_set_ne hj]
  rw [z, List.append_nil] at q
  exact q
end

/-! ### statements -/
structure Ks where
  nx : List Cell → Prop
  rt : Cell → List Cell → Prop
  bk : List Cell → Prop
  ct : List Cell → Prop
structure Cont (Y : YC) (e : En) (k : Ks) (D : Ends) : Prop where
  nx : ∀ F σ H Γ, k.nx Γ → State Y e F σ H Γ → D.nx σ H
  rt : ∀ F σ H Γ v c L L', k.rt c Γ → Wk e F (L ++ L') H → CellOk Y.g F (some v) c L → Slots Y.g F σ Γ L' → D.rt v H
  bk : ∀ F σ H Γ, k.bk Γ → State Y e F σ H Γ → D.bk σ H
  ct : ∀ F σ H Γ, k.ct Γ → State Y e F σ H Γ → D.ct σ H
def Z (Y : YC) (ts : TS) (Γ : List Cell) (k : Ks) : Prop := ∀ (e : En) (F : Hp) (σ : St) (H : Hp) (D : Ends), e.M = [] → State Y e F σ H Γ → Cont Y e k D → ts D σ H
/-- a target takes x -/
def A (Y : YC) (g : TG) (Γ : List Cell) {α : Type} (d : Dat α) (x : α) (k : List Cell → Prop) : Prop := ∀ (e : En) (F : Hp) (σ : St) (H : Hp) (v : V), State Y e F σ H Γ → d.rep Y.g F v x → ∀ Q : St → Hp → Prop, (∀ σ' Γ', k Γ' → State Y e F σ' H Γ' → Q σ' H) → g v σ H Q

section
variable {C : GCtx} {Y : YC} {Γ : List Cell} {te ta tb tc : TE} {t u : TT} {α β γ δ : Type} {d1 : Dat α} {d : Dat α} {d2 : Dat β} {d3 : Dat γ} {d4 : Dat δ} {k : Ks} {t1 t2 ts : TS} {g g1 g2 g3 g4 : TG}

theorem z_seq (h : Z Y t1 Γ { k with nx := fun Γ' => Z Y t2 Γ' k }) : Z Y (tSeq t1 t2) Γ k := fun e F σ H D hM s c =>
  h e F σ H { D with nx := t2 D } hM s ⟨fun F σ H Γ q s' => q e F σ H D hM s' c, c.rt, c.bk, c.ct⟩
theorem z_next (h : k.nx Γ) : Z Y tNext Γ k := fun e F σ H D hM s c => c.nx F σ H Γ h s
theorem z_break (h : k.bk Γ) : Z Y tBreak Γ k := fun e F σ H D hM s c => c.bk F σ H Γ h s
theorem z_cont (h : k.ct Γ) : Z Y tCont Γ k := fun e F σ H D hM s c => c.ct F σ H Γ h s
theorem z_mono {k' : Ks} (h : Z Y ts Γ k') (n : ∀ Γ, k'.nx Γ → k.nx Γ) (r : ∀ c Γ, k'.rt c Γ → k.rt c Γ) (b : ∀ Γ, k'.bk Γ → k.bk Γ) (c : ∀ Γ, k'.ct Γ → k.ct Γ) : Z Y ts Γ k := fun e F σ H D hM s cc =>
  h e F σ H D hM s ⟨fun F σ H Γ q => cc.nx F σ H Γ (n Γ q), fun F σ H Γ v x L L' q => cc.rt F σ H Γ v x L L' (r x Γ q), fun F σ H Γ q => cc.bk F σ H Γ (b Γ q), fun F σ H Γ q => cc.ct F σ H Γ (c Γ q)⟩
/-- what is owned may be frozen anywhere -/
theorem z_frz {od : @OD α d} {x : α} (i : Nat) (hi : Γ[i]? = some (.own d od none x)) (h : Z Y ts (Γ.set i (.val d x)) k) : Z Y ts Γ k := fun e F σ H D hM s c => by
  obtain ⟨F', sm, s'⟩ := s.frz hM hi
  exact h e F' σ H D hM s' c
theorem z_forget {c0 : Cell} (i : Nat) (hi : Γ[i]? = some c0) (h : Z Y ts (Γ.set i .no) k) : Z Y ts Γ k := fun e F σ H D hM s c => h e F σ H D hM (s.hide hi) c

/-! targets -/
theorem a_name {x : α} {i : Nat} {c0 : Cell} {kn : List Cell → Prop} (hi : Γ[i]? = some c0) (h : kn (Γ.set i (.val d x))) : A Y (gName i) Γ d x kn := fun e F σ H v s r Q q =>
  q (σ.set i (some v)) _ h (s.set (c' := .val d x) (L' := []) hi s.base ⟨rfl, v, rfl, r⟩)
theorem a_pair {x : α × β} {n : Nat} {kn : List Cell → Prop} (hn : n = 2) (h : A Y g1 Γ d1 x.1 fun Γ1 => A Y g2 Γ1 d2 x.2 kn) : A Y (gTup Y.K n (gCons g1 (gCons g2 gNil))) Γ (dPair (d1 := d1) (d2 := d2)) x kn := fun e F σ H v s ⟨a, v1, v2, e1, ht, r1, r2⟩ Q q => by
  subst e1 hn
  refine ⟨a, [v1, v2], rfl, (ht.mono s.fh).sq, rfl, v1, [v2], rfl, h e F σ H v1 s r1 _ fun σ1 Γ1 h1 st1 => ⟨v2, [], rfl, h1 e F σ1 H v2 st1 r2 _ fun σ2 Γ2 h2 st2 => ⟨rfl, q σ2 Γ2 h2 st2⟩⟩⟩
theorem a_T3 {x : T3 α β γ} {n : Nat} {kn : List Cell → Prop} (hn : n = 3) (h : A Y g1 Γ d1 x.a fun Γ1 => A Y g2 Γ1 d2 x.b fun Γ2 => A Y g3 Γ2 d3 x.c kn) : A Y (gTup Y.K n (gCons g1 (gCons g2 (gCons g3 gNil)))) Γ (dT3 (d1 := d1) (d2 := d2) (d3 := d3)) x kn := fun e F σ H v s ⟨a, v1, v2, v3, e1, ht, r1, r2, r3⟩ Q q => by
  subst e1 hn
  refine ⟨a, [v1, v2, v3], rfl, (ht.mono s.fh).sq, rfl, v1, [v2, v3], rfl, h e F σ H v1 s r1 _ fun σ1 Γ1 h1 st1 => ⟨v2, [v3], rfl, h1 e F σ1 H v2 st1 r2 _ fun σ2 Γ2 h2 st2 => ⟨v3, [], rfl, h2 e F σ2 H v3 st2 r3 _ fun σ3 Γ3 h3 st3 => ⟨rfl, q σ3 Γ3 h3 st3⟩⟩⟩⟩
theorem a_T4 {x : T4 α β γ δ} {n : Nat} {kn : List Cell → Prop} (hn : n = 4) (h : A Y g1 Γ d1 x.a fun Γ1 => A Y g2 Γ1 d2 x.b fun Γ2 => A Y g3 Γ2 d3 x.c fun Γ3 => A Y g4 Γ3 d4 x.d kn) : A Y (gTup Y.K n (gCons g1 (gCons g2 (gCons g3 (gCons g4 gNil))))) Γ (dT4 (d1 := d1) (d2 := d2) (d3 := d3) (d4 := d4)) x kn := fun e F σ H v s ⟨a, v1, v2, v3, v4, e1, ht, r1, r2, r3, r4⟩ Q q => by
  subst e1 hn
  refine ⟨a, [v1, v2, v3, v4], rfl, (ht.mono s.fh).sq, rfl, v1, [v2, v3, v4], rfl, h e F σ H v1 s r1 _ fun σ1 Γ1 h1 st1 => ⟨v2, [v3, v4], rfl, h1 e F σ1 H v2 st1 r2 _ fun σ2 Γ2 h2 st2 => ⟨v3, [v4], rfl, h2 e F σ2 H v3 st2 r3 _ fun σ3 Γ3 h3 st3 =>
    ⟨v4, [], rfl, h3 e F σ3 H v4 st3 r4 _ fun σ4 Γ4 h4 st4 => ⟨rfl, q σ4 Γ4 h4 st4⟩⟩⟩⟩⟩

/-! assignments -/
theorem z_set {i : Nat} {c0 : Cell} (hi : Γ[i]? = some c0) (h : W Y te Γ d fun x => k.nx (Γ.set i (.val d x))) : Z Y (tAsg te (gName i)) Γ k := fun e F σ H D hM s c => h e F σ H s _ fun v F' H' x kx g r =>
  c.nx F' _ H' _ kx (s.set (c' := .val d x) (L' := []) hi g ⟨rfl, v, rfl, r⟩)
theorem z_setG (h : W Y te Γ d fun x => A Y g Γ d x k.nx) : Z Y (tAsg te g) Γ k := fun e F σ H D hM s c => h e F σ H s _ fun v F' H' x kx gr r =>
  kx e F' σ H' v (s.grow gr) r _ fun σ2 Γ2 k2 s2 => c.nx F' σ2 H' Γ2 k2 s2
theorem z_setO {od : @OD α d} {i : Nat} {c0 : Cell} (hi : Γ[i]? = some c0) (h : O Y te Γ od fun x => k.nx (Γ.set i (.own d od none x))) : Z Y (tAsg te (gName i)) Γ k := fun e F σ H D hM s c => h e F σ H s _ fun v F' H' L' x kx g r =>
  c.nx F' _ H' _ kx (s.set (c' := .own d od none x) hi g ⟨v, rfl, fun _ z => (nomatch z), r⟩)
/-- y = x, both owned from here on by y -/
theorem z_move {od : @OD α d} {x : α} {i j : Nat} {c0 : Cell} (hi : Γ[i]? = some (.own d od none x)) (hj : (Γ.set i .no)[j]? = some c0) (h : k.nx ((Γ.set i .no).set j (.own d od none x))) : Z Y (tAsg (tVar i) (gName j)) Γ k := fun e F σ H D hM s c => by
  obtain ⟨v, Li, rest, e1, r, kw, f⟩ := s.mut hi
  refine ⟨v, e1, c.nx F _ H _ h ?_⟩
  obtain ⟨hx, L, k0, sl⟩ := s
  obtain ⟨o, L1, Li', L2, e2, e3, ⟨v', e4, _, r'⟩, f'⟩ := sl.get hi
  rw [e1] at e2
  cases (Option.some.inj e2)
  cases e4
  subst e3
  have sl2 := f' F (some v) .no [] (Same.refl F) rfl
  have z : σ.set i (some v) = σ := by
    apply List.ext_getElem?
    intro j
    by_cases hj : i = j
    · subst hj
      obtain ⟨hlt, hv⟩ := List.getElem?_eq_some_iff.mp e1
      rw [List.getElem?_set_self hlt, e1]
    · rw [List.getElem?_set_ne hj]
  rw [z, List.append_nil] at sl2
  obtain ⟨o3, M1, Mi, M2, e5, e6, _, f3⟩ := sl2.get hj
  have q := f3 F (some v) (.own d od none x) Li' (Same.refl F) ⟨v, rfl, fun _ z => (nomatch z), r'⟩
  refine ⟨hx, M1 ++ Li' ++ M2, ?_, q⟩
  have k1 := k0.front
  rw [e6] at k1
  have k2 : Wk e F ((Li' ++ M1) ++ Mi ++ M2) H := by simpa [List.append_assoc] using k1
  have k3 : Wk e F (Li' ++ (M1 ++ M2)) H := by simpa [List.append_assoc] using k2.drop
  exact k3.back
theorem z_drop {kt : α → Prop} (h : R Y te Γ d fun _ => k.nx Γ) : Z Y (tDrop te) Γ k := fun e F σ H D hM s c => h e F σ H s _ fun v F' H' x kx g r => c.nx F' σ H' Γ kx (s.grow g)
theorem z_aug {i : Nat} {f : Int → Int → Int} {x : Int} (hi : Γ[i]? = some (.val dInt x)) (h : R Y te Γ dInt fun y => k.nx (Γ.set i (.val dInt (f x y)))) : Z Y (tAug i te (ipI f)) Γ k := fun e F σ H D hM s c => by
  obtain ⟨v, e1, r⟩ := s.val hi
  cases (show v = .int x from r)
  refine ⟨.int x, e1, h e F σ H s _ fun v2 F' H' y ky g r2 => ?_⟩
  cases (show v2 = .int y from r2)
  exact ⟨x, y, rfl, rfl, c.nx F' _ H' _ ky (s.set (c' := .val dInt (f x y)) (L' := []) hi g ⟨rfl, _, rfl, rfl⟩)⟩
theorem z_if (h : T Y t Γ fun b => (b = true → Z Y t1 Γ k) ∧ (b = false → Z Y t2 Γ k)) : Z Y (tIfS t t1 t2) Γ k := fun e F σ H D hM s c => h e F σ H s _ fun b F' H' kb g => by
  cases b with
  | true => exact kb.1 rfl e F' σ H' D hM (s.grow g) c
  | false => exact kb.2 rfl e F' σ H' D hM (s.grow g) c
/-- both ways meet in J -/
theorem z_if' {b : Bool} (h : T Y t Γ (· = b)) (h1 : b = true → Z Y t1 Γ k) (h2 : b = false → Z Y t2 Γ k) : Z Y (tIfS t t1 t2) Γ k := z_if (t_mono h fun x e => by subst e; exact ⟨h1, h2⟩)
theorem z_join (J : List Cell → Prop) (h : Z Y t1 Γ { k with nx := J }) (h2 : ∀ Γ', J Γ' → Z Y t2 Γ' k) : Z Y (tSeq t1 t2) Γ k := z_seq (z_mono h h2 (fun _ _ q => q) (fun _ q => q) fun _ q => q)
theorem z_ret (h : W Y te Γ d fun x => k.rt (.val d x) Γ) : Z Y (tRet te) Γ k := fun e F σ H D hM s c => h e F σ H s _ fun v F' H' x kx g r => by
  obtain ⟨_, L, kw, sl⟩ := s
  exact c.rt F' σ H' Γ v (.val d x) [] L kx (kw.trans0 g) ⟨rfl, v, rfl, r⟩ (sl.mono g.ff)
theorem z_retO {od : @OD α d} (h : O Y te Γ od fun x => k.rt (.own d od none x) Γ) : Z Y (tRet te) Γ k := fun e F σ H D hM s c => h e F σ H s _ fun v F' H' L' x kx g r => by
  obtain ⟨_, L, kw, sl⟩ := s
  exact c.rt F' σ H' Γ v (.own d od none x) L' L kx (kw.trans g) ⟨v, rfl, fun _ z => (nomatch z), r⟩ (sl.mono g.ff)
theorem z_retV {od : @OD α d} {i : Nat} {x : α} (hi : Γ[i]? = some (.own d od none x)) (h : k.rt (.own d od none x) (Γ.set i .no)) : Z Y (tRet (tVar i)) Γ k := fun e F σ H D hM s c => by
  obtain ⟨hx, L, k0, sl⟩ := s
  obtain ⟨o, L1, Li, L2, e1, e2, ⟨v, rfl, _, r⟩, f⟩ := sl.get hi
  subst e2
  refine ⟨v, e1, ?_⟩
  have sl2 := f F (some v) .no [] (Same.refl F) rfl
  rw [List.append_nil] at sl2
  exact c.rt F _ H _ v (.own d od none x) Li (L1 ++ L2) h k0.front ⟨v, rfl, fun _ z => (nomatch z), r⟩ sl2
theorem z_retN (h : k.rt (.val dUnit ()) Γ) : Z Y tRetN Γ k := fun e F σ H D hM s c => by
  obtain ⟨_, L, kw, sl⟩ := s
  exact c.rt F σ H Γ .non (.val dUnit ()) [] L h kw ⟨rfl, .non, rfl, rfl⟩ sl

/-! stores to what is owned -/
theorem z_append {pin : Option V} {i : Nat} {xs : List α} (hi : Γ[i]? = some (.own (dList (d := d)) (oList (d := d)) pin xs)) (h : W Y te Γ d fun y => xs.length < PySem.sizeLine ∧ k.nx (Γ.set i (.own (dList (d := d)) (oList (d := d)) pin (xs ++ [y])))) :
    Z Y (tDrop (tBM Y.K "list" rAppend (tVar i) (tCons te tNil))) Γ k := fun e F σ H D hM s c => by
  obtain ⟨v0, _, _, e1, ⟨a0, vs0, rfl, rfl, _⟩, kw0, _⟩ := s.mut hi
  have ha0 : H a0 = some (.lst vs0) := (kw0.ow (a0, .lst vs0) (by simp)).2.1
  refine ⟨.ref a0, e1, .inl ⟨rfl, vs0, .inl (.inl ha0)⟩, h e F σ H s _ fun w F' H' y ⟨hl, ky⟩ g rw' => ?_⟩
  obtain ⟨v, Li, rest, e2, ⟨a, vs, rfl, rfl, r⟩, kw, f⟩ := (s.grow g).mut hi
  rw [e1] at e2
  cases (Option.some.inj e2)
  have ha : H' a0 = some (.lst vs) := (kw.ow (a0, .lst vs) (by simp)).2.1
  refine ⟨a0, vs, w, rfl, rfl, ha, by rw [r.len]; exact hl, ?_⟩
  exact c.nx F' σ _ _ ky (f F' _ [(a0, .lst (vs ++ [w]))] (xs ++ [y]) (Same.refl F') (kw.put (fun _ z => by cases z)) ⟨a0, _, rfl, rfl, r.append (Reps.one rw')⟩)
/-- y = xs.pop() -/
theorem z_pop {pin : Option V} {i j : Nat} {xs : List α} {y : α} {c0 : Cell} (hi : Γ[i]? = some (.own (dList (d := d)) (oList (d := d)) pin (xs ++ [y]))) (hj : (Γ.set i (.own (dList (d := d)) (oList (d := d)) pin xs))[j]? = some c0)
    (h : k.nx ((Γ.set i (.own (dList (d := d)) (oList (d := d)) pin xs)).set j (.val d y))) : Z Y (tAsg (tBM0 Y.K "list" rPop (tVar i)) (gName j)) Γ k := fun e F σ H D hM s c => by
  obtain ⟨v, _, rest, e1, ⟨a, vs, rfl, rfl, r⟩, kw, f⟩ := s.mut hi
  have ha : H a = some (.lst vs) := (kw.ow (a, .lst vs) (by simp)).2.1
  have hl : vs.length = xs.length + 1 := by rw [r.len]; simp
  have hx : (xs ++ [y])[vs.length - 1]? = some y := by rw [hl]; simp
  obtain ⟨w, hw, rw'⟩ := r.get hx
  refine ⟨.ref a, e1, .inl ⟨rfl, vs, .inl (.inl ha)⟩, a, vs, w, rfl, rfl, ha, hw, ?_⟩
  have s2 := f F _ [(a, .lst vs.dropLast)] xs (Same.refl F) (kw.put (fun _ z => by cases z)) ⟨a, _, rfl, rfl, by
    have q := r.take xs.length
    rw [List.take_left] at q
    rw [List.dropLast_eq_take, hl]
    exact q⟩
  exact c.nx F _ _ _ h (s2.set (c' := .val d y) (L' := []) hj s2.base ⟨rfl, w, rfl, rw'⟩)
/-- xs[i] = e -/
theorem z_setIx {pin : Option V} {i : Nat} {xs : List α} (hi : Γ[i]? = some (.own (dList (d := d)) (oList (d := d)) pin xs)) (h : W Y te Γ d fun y => R Y tb Γ dInt fun n => ∃ j, ixN xs.length n = some j ∧ k.nx (Γ.set i (.own (dList (d := d)) (oList (d := d)) pin (xs.set j y)))) :
    Z Y (tAsg te (gSub (tVar i) tb rSetL)) Γ k := fun e F σ H D hM s c => h e F σ H s _ fun w F1 H1 y hy g1 rw1 => by
  obtain ⟨v0, _, _, e1, ⟨a0, vs0, rfl, rfl, _⟩, kw0, _⟩ := (s.grow g1).mut hi
  refine ⟨.ref a0, e1, hy e F1 σ H1 (s.grow g1) _ fun v2 F2 H2 n ⟨j, hj, kj⟩ g2 r2 => ?_⟩
  cases (show v2 = .int n from r2)
  obtain ⟨v, Li, rest, e2, ⟨a, vs, rfl, rfl, r⟩, kw, f⟩ := ((s.grow g1).grow g2).mut hi
  rw [e1] at e2
  cases (Option.some.inj e2)
  have ha : H2 a0 = some (.lst vs) := (kw.ow (a0, .lst vs) (by simp)).2.1
  refine ⟨a0, vs, n, j, rfl, rfl, ha, by rw [r.len]; exact hj, ?_⟩
  exact c.nx F2 σ _ _ kj (f F2 _ [(a0, .lst (vs.set j w))] (xs.set j y) (Same.refl F2) (kw.put (fun _ z => by cases z)) ⟨a0, _, rfl, rfl, r.set j (d.mono g2.ff rw1)⟩)

/-! loops -/
theorem Wk.out {e : En} {F1 F : Hp} {L1 L : LO} {H1 H : Hp} (a : Wk e F1 L1 H1) (b : Wk ⟨F1, e.H0, e.M⟩ F L H) : Wk e F L H :=
  ⟨a.ff.trans b.ff, b.hh, b.th, b.fh, fun x h h' => b.nw x h (a.nw x h h'), b.tp, b.ow, b.nd⟩
theorem Wk.into {e : En} {F : Hp} {L : LO} {H : Hp} (a : Wk e F L H) : Wk ⟨F, e.H0, e.M⟩ F L H :=
  ⟨Same.refl _, a.hh, a.th, a.fh, fun _ _ h => h, a.tp, a.ow, a.nd⟩
theorem XOk.into {e : En} {F1 : Hp} {L1 : LO} {H1 : Hp} (h : XOk Y e) (a : Wk e F1 L1 H1) : XOk Y ⟨F1, e.H0, e.M⟩ := fun x d F σ H Γ k ⟨L, kw, sl⟩ hd => h x d F σ H Γ k ⟨L, a.out kw, sl⟩ hd
theorem State.into {e : En} {F : Hp} {σ : St} {H : Hp} (s : State Y e F σ H Γ) : State Y ⟨F, e.H0, e.M⟩ F σ H Γ := let ⟨hx, L, k, sl⟩ := s; ⟨hx.into k, L, k.into, sl⟩
theorem State.out {e : En} {F1 F : Hp} {L1 : LO} {H1 : Hp} {σ : St} {H : Hp} (hx : XOk Y e) (a : Wk e F1 L1 H1) (s : State Y ⟨F1, e.H0, e.M⟩ F σ H Γ) : State Y e F σ H Γ := let ⟨_, L, k, sl⟩ := s; ⟨hx, L, a.out k, sl⟩
theorem State.ff {e : En} {F : Hp} {σ : St} {H : Hp} (s : State Y e F σ H Γ) : Same e.F0 F := let ⟨_, _, k, _⟩ := s; k.ff
theorem Cont.into {e : En} {F1 : Hp} {L1 : LO} {H1 : Hp} {D : Ends} (hx : XOk Y e) (a : Wk e F1 L1 H1) (c : Cont Y e k D) : Cont Y ⟨F1, e.H0, e.M⟩ k D :=
  ⟨fun F σ H Γ q s => c.nx F σ H Γ q (s.out hx a), fun F σ H Γ v x L L' q kw => c.rt F σ H Γ v x L L' q (a.out kw), fun F σ H Γ q s => c.bk F σ H Γ q (s.out hx a), fun F σ H Γ q s => c.ct F σ H Γ q (s.out hx a)⟩
/-- what a loop asks of its body -/
def Body (Y : YC) (g : TG) (ts : TS) {α : Type} (d : Dat α) (k : Ks) (get : Nat → Option α) (n : Nat) (Γ : List Cell) : Prop :=
  ∃ I : Nat → List Cell → Prop, I 0 Γ ∧ (∀ i x Γ', get i = some x → I i Γ' → A Y g Γ' d x fun Γ2 => Z Y ts Γ2 { nx := I (i + 1), ct := I (i + 1), bk := k.nx, rt := k.rt }) ∧ ∀ Γ', I n Γ' → k.nx Γ'
theorem z_for {tl : TE} (h : W Y tl Γ (dList (d := d)) fun xs => Body Y g ts d k (fun i => xs[i]?) xs.length Γ) : Z Y (tFor (iList Y.K tl) g ts) Γ k := fun e F σ H D hM s c => h e F σ H s _ fun v F1 H1 xs ⟨I, h0, hs, hd⟩ g1 ⟨a, vs, e1, hq, r⟩ => by
  subst e1
  have s1 := s.grow g1
  obtain ⟨hx1, L1, kw1, _⟩ := id s1
  have c1 := c.into hx1 kw1
  refine ⟨a, rfl, ⟨vs, g1.fh.seq hq⟩, for_list (K := Y.K) (a := a) (xs := vs) (fun i σ H => ∃ F' Γ', State Y ⟨F1, e.H0, e.M⟩ F' σ H Γ' ∧ I i Γ') ⟨F1, Γ, s1.into, h0⟩ (fun i σ H _ ⟨F', Γ', st, _⟩ => (st.ff.trans st.fh).seq hq) (fun i w σ H hw ⟨F', Γ', st, hi⟩ => ?_) fun σ H ⟨F', Γ', st, hi⟩ => ?_⟩
  · obtain ⟨x, hx, rx⟩ := r.getV hw
    refine hs i x Γ' hx hi _ F' σ H w st (d.mono st.ff rx) _ fun σ2 Γ2 h2 st2 => ?_
    exact h2 ⟨F1, e.H0, e.M⟩ F' σ2 H _ hM st2 ⟨fun F3 σ3 H3 Γ3 k3 st3 => ⟨F3, Γ3, st3, k3⟩, c1.rt, c1.nx, fun F3 σ3 H3 Γ3 k3 st3 => ⟨F3, Γ3, st3, k3⟩⟩
  · rw [r.len] at hi
    exact c1.nx F' σ H Γ' (hd Γ' hi) st
theorem z_forT {tl : TE} (h : W Y tl Γ (dTup (d := d)) fun xs => Body Y g ts d k (fun i => xs.l[i]?) xs.l.length Γ) : Z Y (tFor (iTup Y.K tl) g ts) Γ k := fun e F σ H D hM s c => h e F σ H s _ fun v F1 H1 xs ⟨I, h0, hs, hd⟩ g1 ⟨a, vs, e1, hq, r⟩ => by
  subst e1
  have s1 := s.grow g1
  obtain ⟨hx1, L1, kw1, _⟩ := id s1
  have c1 := c.into hx1 kw1
  refine ⟨a, rfl, ⟨vs, (hq.mono g1.fh).sq⟩, for_tup (K := Y.K) (a := a) (xs := vs) (fun i σ H => ∃ F' Γ', State Y ⟨F1, e.H0, e.M⟩ F' σ H Γ' ∧ I i Γ') ⟨F1, Γ, s1.into, h0⟩ (fun i σ H _ ⟨F', Γ', st, _⟩ => (hq.mono (st.ff.trans st.fh)).sq) (fun i w σ H hw ⟨F', Γ', st, hi⟩ => ?_) fun σ H ⟨F', Γ', st, hi⟩ => ?_⟩
  · obtain ⟨x, hx, rx⟩ := r.getV hw
    refine hs i x Γ' hx hi _ F' σ H w st (d.mono st.ff rx) _ fun σ2 Γ2 h2 st2 => ?_
    exact h2 ⟨F1, e.H0, e.M⟩ F' σ2 H _ hM st2 ⟨fun F3 σ3 H3 Γ3 k3 st3 => ⟨F3, Γ3, st3, k3⟩, c1.rt, c1.nx, fun F3 σ3 H3 Γ3 k3 st3 => ⟨F3, Γ3, st3, k3⟩⟩
  · rw [r.len] at hi
    exact c1.nx F' σ H Γ' (hd Γ' hi) st
/-- lo, lo + 1, .. (n of them) -/
def rng (lo : Int) (n : Nat) (i : Nat) : Option Int := if i < n then some (lo + i) else none
theorem for_rng {lo : Int} {n : Nat} {e : En} {F : Hp} {σ : St} {H : Hp} {D : Ends} (hM : e.M = []) (s : State Y e F σ H Γ) (c : Cont Y e k D) (h : Body Y g ts dInt k (rng lo n) n Γ) : ∃ W : Nat → Nat → St → Hp → Prop, (∃ m, W 0 m σ H) ∧ ∀ i m σ H, W i m σ H →
      ((Itr lo n).stop i H ∧ D.nx σ H) ∨ ((Itr lo n).go i H ∧ ∃ N : St → Hp → Prop, (∀ σ' H', N σ' H' → ∃ m', m' < m ∧ W (i + 1) m' σ' H') ∧ ∀ x H', (Itr lo n).yld i H x H' → g x σ H' fun σ2 H2 => ts { D with nx := N, ct := N, bk := D.nx } σ2 H2) := by
  obtain ⟨I, h0, hs, hd⟩ := h
  refine for_range (lo := lo) (n := n) (fun i σ H => ∃ F' Γ', State Y e F' σ H Γ' ∧ I i Γ') ⟨F, Γ, s, h0⟩ (fun i σ H hw ⟨F', Γ', st, hi⟩ => ?_) fun σ H ⟨F', Γ', st, hi⟩ => c.nx F' σ H Γ' (hd Γ' hi) st
  refine hs i (lo + i) Γ' (by unfold rng; rw [if_pos hw]) hi _ F' σ H _ st rfl _ fun σ2 Γ2 h2 st2 => ?_
  exact h2 _ F' σ2 H _ hM st2 ⟨fun F3 σ3 H3 Γ3 k3 st3 => ⟨F3, Γ3, st3, k3⟩, c.rt, c.nx, fun F3 σ3 H3 Γ3 k3 st3 => ⟨F3, Γ3, st3, k3⟩⟩
theorem z_range (h : R Y ta Γ dInt fun n => -(2 ^ 62) ≤ n ∧ n < 2 ^ 62 ∧ Body Y g ts dInt k (rng 0 n.toNat) n.toNat Γ) : Z Y (tFor (iRng1 (tCons ta tNil)) g ts) Γ k := fun e F σ H D hM s c => h e F σ H s _ fun v F1 H1 n ⟨l1, l2, hb⟩ g1 r1 => by
  cases (show v = .int n from r1)
  exact ⟨n, rfl, l1, l2, for_rng hM (s.grow g1) c hb⟩
theorem z_range2 (h : R Y ta Γ dInt fun m => R Y tb Γ dInt fun n => (-(2 ^ 62) ≤ m ∧ m < 2 ^ 62 ∧ -(2 ^ 62) ≤ n ∧ n < 2 ^ 62) ∧ Body Y g ts dInt k (rng m (n - m).toNat) (n - m).toNat Γ) : Z Y (tFor (iRng2 (tCons ta (tCons tb tNil))) g ts) Γ k := fun e F σ H D hM s c => h e F σ H s _ fun v F1 H1 m h1 g1 r1 => h1 e F1 σ H1 (s.grow g1) _ fun v2 F2 H2 n ⟨l, hb⟩ g2 r2 => by
  cases (show v = .int m from r1)
  cases (show v2 = .int n from r2)
  exact ⟨m, n, rfl, l, for_rng hM ((s.grow g1).grow g2) c hb⟩
theorem z_while (I : Nat → List Cell → Prop) (h0 : ∃ m, I m Γ) (hs : ∀ m Γ', I m Γ' → T Y t Γ' fun b => (b = true → Z Y ts Γ' { nx := fun Γ2 => ∃ m', m' < m ∧ I m' Γ2, ct := fun Γ2 => ∃ m', m' < m ∧ I m' Γ2, bk := k.nx, rt := k.rt }) ∧ (b = false → k.nx Γ')) : Z Y (tWhile t ts) Γ k := fun e F σ H D hM s c => by
  obtain ⟨m0, h0⟩ := h0
  refine ⟨fun m σ H => ∃ F' Γ', State Y e F' σ H Γ' ∧ I m Γ', ⟨m0, F, Γ, s, h0⟩, fun m σ H ⟨F', Γ', st, hi⟩ => ?_⟩
  refine hs m Γ' hi e F' σ H st _ fun b F2 H2 kb g2 => ?_
  cases b with
  | false => exact c.nx F2 σ H2 Γ' (kb.2 rfl) (st.grow g2)
  | true =>
    refine ⟨fun σ3 H3 => ∃ F3 Γ3, State Y e F3 σ3 H3 Γ3 ∧ ∃ m', m' < m ∧ I m' Γ3, fun σ3 H3 ⟨F3, Γ3, st3, m', hm, q⟩ => ⟨m', hm, F3, Γ3, st3, q⟩, ?_⟩
    exact kb.1 rfl e F2 σ H2 _ hM (st.grow g2) ⟨fun F3 σ3 H3 Γ3 k3 st3 => ⟨F3, Γ3, st3, k3⟩, c.rt, c.nx, fun F3 σ3 H3 Γ3 k3 st3 => ⟨F3, Γ3, st3, k3⟩⟩
/-! truth of a list -/
theorem t_truL {kb : Bool → Prop} (h : R Y ta Γ (dList (d := d)) fun xs => kb (!xs.isEmpty)) : T Y (fun σ H Q => ta σ H fun x H' => ∃ k, TruV Y.K x H' k ∧ Q k H') Γ kb := fun e F σ H s Q q => h e F σ H s _ fun v F' H' xs kx g ⟨a, vs, e1, hs, r⟩ => by
  subst e1
  refine ⟨_, .inl ⟨vs, hs, rfl⟩, q _ F' H' ?_ g⟩
  have e : vs.isEmpty = xs.isEmpty := by
    have := r.len
    cases vs <;> cases xs <;> simp_all
  rw [e]
  exact kx

/-! ### calls -/
/-- a def over data that it leaves as they are -/
def Fn (C : GCtx) (Γ : List Cell) (post : Cell → Prop) (vs : List V) (H : Hp) (Q : VK) : Prop :=
  ∃ F, Gr F H F H ∧ Slots C F (vs.map some) Γ [] ∧ ∀ v F' H' c L, post c → Wk ⟨F, H, []⟩ F' L H' → CellOk C F' (some v) c L → Q v H'
theorem Fn.len {post : Cell → Prop} {vs : List V} {H : Hp} {Q : VK} (h : Fn C Γ post vs H Q) : vs.length = Γ.length := by
  obtain ⟨F, _, s, _⟩ := h
  simpa using s.len
theorem Fn.mono {post post' : Cell → Prop} {vs : List V} {H : Hp} {Q : VK} (h : Fn C Γ post vs H Q) (m : ∀ c, post' c → post c) : Fn C Γ post' vs H Q := by
  obtain ⟨F, g, s, q⟩ := h
  exact ⟨F, g, s, fun v F' H' c L p => q v F' H' c L (m c p)⟩
/-- sp serves the cells, and its answers are as post says -/
def SpW (C : GCtx) (sp : Sp) (cs : List Cell) (post : Cell → Prop) : Prop := ∀ vs H Q E, Fn C cs post vs H Q → sp vs H Q E
theorem w_call {sp : Sp} {E : XK} {tl : TA} {kx : α → Prop} (h : WA Y tl Γ fun cs => SpW Y.g sp cs fun c => ∃ r, c = .val d r ∧ kx r) : W Y (tCall sp [] E tl) Γ d kx := fun e F σ H s Q q => h e F σ H s _ fun vs F1 H1 cs hc g1 sl => by
  show sp (vs ++ []) H1 Q E
  rw [List.append_nil]
  refine hc vs H1 Q E ⟨F1, g1.base, sl, fun v F' H' c L ⟨r, ec, kr⟩ g2 rc => ?_⟩
  subst ec
  obtain ⟨e1, v', e2, rv⟩ := rc
  subst e1
  cases (Option.some.inj e2)
  exact q v F' H' r kr (g1.trans0 g2) rv
theorem o_call {sp : Sp} {E : XK} {tl : TA} {od : @OD α d} {kx : α → Prop} (h : WA Y tl Γ fun cs => SpW Y.g sp cs fun c => ∃ r, c = .own d od none r ∧ kx r) : O Y (tCall sp [] E tl) Γ od kx := fun e F σ H s Q q => h e F σ H s _ fun vs F1 H1 cs hc g1 sl => by
  show sp (vs ++ []) H1 Q E
  rw [List.append_nil]
  refine hc vs H1 Q E ⟨F1, g1.base, sl, fun v F' H' c L ⟨r, ec, kr⟩ g2 rc => ?_⟩
  subst ec
  obtain ⟨v', e2, _, rv⟩ := rc
  cases (Option.some.inj e2)
  exact q v F' H' L r kr (by simpa using g1.trans g2) rv
/-- what is new in H' joins F -/
def fresh (F H F' : Hp) : Hp := fun a => if (H a).isSome = true then F a else F' a
theorem fresh_gr {F F1 H F' H' : Hp} {L : LO} (b : Gr F H F H) (g : Wk ⟨F1, H, []⟩ F' L H') : Wk ⟨F, H, []⟩ (fresh F H F') L H' where
  ff := fun a o h => by
    have h2 : (H a).isSome = true := by rw [b.fh a o h]; rfl
    unfold fresh; rw [if_pos h2]; exact h
  hh := g.hh
  th := g.th
  fh := fun a o h => by
    unfold fresh at h
    split at h
    · exact g.hh a o (fun z => nomatch z) (b.fh a o h)
    · exact g.fh a o h
  nw := fun a h h' => by
    unfold fresh
    have h2 : (H a).isSome = true := by cases q : H a with | none => exact absurd q h | some o => rfl
    rw [if_pos h2]; exact h'
  tp := fun a xs h => by
    unfold fresh
    split
    · next h2 =>
      cases q : H a with
      | none => rw [q] at h2; cases h2
      | some o =>
        have := g.hh a o (fun z => nomatch z) q
        rw [h] at this
        cases (Option.some.inj this)
        exact b.tp a xs q
    · exact g.tp a xs h
  ow := fun p hp => by
    obtain ⟨h1, h2, h3⟩ := g.ow p hp
    have h4 : H p.1 = none := h3.resolve_right (fun z => nomatch z)
    refine ⟨?_, h2, .inl h4⟩
    unfold fresh
    rw [if_neg (by rw [h4]; exact fun z => nomatch z)]
    exact h1
  nd := g.nd
theorem Gr.all {F H : Hp} (b : Gr F H F H) : Gr H H H H := ⟨Same.refl _, fun _ _ _ h => h, fun _ h => h, Same.refl _, fun _ _ h => h, fun _ _ h => h, fun _ h => (nomatch h), List.nodup_nil⟩
/-- .. where the arguments may be owned, and the answer stands still -/
theorem w_callB [i : @Imm α d] {sp : Sp} {E : XK} {tl : TA} {kx : α → Prop} (h : RA Y tl Γ fun cs => SpW Y.g sp cs fun c => ∃ r, c = .val d r ∧ kx r) : W Y (tCall sp [] E tl) Γ d kx := fun e F σ H s Q q => h e F σ H s _ fun vs F1 H1 cs hc g1 sl => by
  show sp (vs ++ []) H1 Q E
  rw [List.append_nil]
  refine hc vs H1 Q E ⟨H1, Gr.all g1.base, sl, fun v F' H' c L ⟨r, ec, kr⟩ g2 rc => ?_⟩
  subst ec
  obtain ⟨e1, v', e2, rv⟩ := rc
  subst e1
  cases (Option.some.inj e2)
  have g3 := fresh_gr g1.base g2
  exact q v _ H' r kr (g1.trans0 g3) (i.imm (fun a xs h => g3.tp a xs (g2.fh _ _ h)) rv)
/-- owned data that lean on nothing but what stands still -/
class OIm (α : Type) [d : Dat α] (od : OD α) : Prop where
  oimm : ∀ {C : GCtx} {F H : Hp} {v : V} {x : α} {L : LO}, (∀ a xs, H a = some (.tup xs) → F a = some (.tup xs)) → od.orep C H v x L → od.orep C F v x L
instance mList {α : Type} [d : Dat α] [i : Imm α] : OIm (List α) oList := ⟨fun t ⟨a, vs, e, h, r⟩ => ⟨a, vs, e, h, r.imm t⟩⟩
theorem o_callB {od : @OD α d} [i : @OIm α d od] {sp : Sp} {E : XK} {tl : TA} {kx : α → Prop} (h : RA Y tl Γ fun cs => SpW Y.g sp cs fun c => ∃ r, c = .own d od none r ∧ kx r) : O Y (tCall sp [] E tl) Γ od kx := fun e F σ H s Q q => h e F σ H s _ fun vs F1 H1 cs hc g1 sl => by
  show sp (vs ++ []) H1 Q E
  rw [List.append_nil]
  refine hc vs H1 Q E ⟨H1, Gr.all g1.base, sl, fun v F' H' c L ⟨r, ec, kr⟩ g2 rc => ?_⟩
  subst ec
  obtain ⟨v', e2, _, rv⟩ := rc
  cases (Option.some.inj e2)
  have g3 := fresh_gr g1.base g2
  exact q v _ H' L r kr (by simpa using g1.trans g3) (i.oimm (fun a xs h => g3.tp a xs (g2.fh _ _ h)) rv)
theorem slots_pad {C : GCtx} {F : Hp} : ∀ n, Slots C F (List.replicate n none) (List.replicate n .no) [] := by
  intro n
  induction n with
  | zero => exact .nil
  | succ n ih => exact .cons (L := []) rfl ih
theorem slots_app {C : GCtx} {F : Hp} {σ1 σ2 : St} {Γ1 Γ2 : List Cell} {L1 L2 : LO} (a : Slots C F σ1 Γ1 L1) (b : Slots C F σ2 Γ2 L2) : Slots C F (σ1 ++ σ2) (Γ1 ++ Γ2) (L1 ++ L2) := by
  induction a with
  | nil => exact b
  | cons h r ih => rw [List.append_assoc]; exact .cons h ih
/-- a def over data that it leaves as they are, which may let exceptions out -/
def FnX (C : GCtx) (Γ : List Cell) (post : Cell → Prop) (xp : Exn → Prop) (vs : List V) (H : Hp) (Q : VK) (E : XK) : Prop :=
  ∃ F, Gr F H F H ∧ Slots C F (vs.map some) Γ [] ∧ (∀ v F' H' c L, post c → Wk ⟨F, H, []⟩ F' L H' → CellOk C F' (some v) c L → Q v H') ∧
    ∀ x d F' H', xp x → Wk ⟨F, H, []⟩ F' [] H' → x.at F' d → E (.ref x.cls) d H'
theorem FnX.fn {post : Cell → Prop} {xp : Exn → Prop} {vs : List V} {H : Hp} {Q : VK} {E : XK} (h : FnX C Γ post xp vs H Q E) : Fn C Γ post vs H Q := let ⟨F, g, s, q, _⟩ := h; ⟨F, g, s, q⟩
theorem FnX.len {post : Cell → Prop} {xp : Exn → Prop} {vs : List V} {H : Hp} {Q : VK} {E : XK} (h : FnX C Γ post xp vs H Q E) : vs.length = Γ.length := h.fn.len
theorem FnX.mono {post post' : Cell → Prop} {xp xp' : Exn → Prop} {vs : List V} {H : Hp} {Q : VK} {E : XK} (h : FnX C Γ post xp vs H Q E) (m : ∀ c, post' c → post c) (mx : ∀ x, xp' x → xp x) : FnX C Γ post' xp' vs H Q E := by
  obtain ⟨F, g, s, q, qx⟩ := h
  exact ⟨F, g, s, fun v F' H' c L p => q v F' H' c L (m c p), fun x d F' H' p => qx x d F' H' (mx x p)⟩
theorem Fn.x {post : Cell → Prop} {vs : List V} {H : Hp} {Q : VK} {E : XK} (h : Fn C Γ post vs H Q) : FnX C Γ post (fun _ => False) vs H Q E := let ⟨F, g, s, q⟩ := h; ⟨F, g, s, q, fun _ _ _ _ z => z.elim⟩
def SpX (C : GCtx) (sp : Sp) (cs : List Cell) (post : Cell → Prop) (xp : Exn → Prop) : Prop := ∀ vs H Q E, FnX C cs post xp vs H Q E → sp vs H Q E
theorem SpX.w {sp : Sp} {cs : List Cell} {post : Cell → Prop} (h : SpX C sp cs post fun _ => False) : SpW C sp cs post := fun vs H Q E f => h vs H Q E f.x
theorem FnX.body {N : List Str} {post : Cell → Prop} {xp : Exn → Prop} {vs : List V} {H : Hp} {Q : VK} {E : XK} {t : TS} (h : FnX C Γ post xp vs H Q E)
    (hz : Z ⟨C, fun _ => E, fun x _ => xp x⟩ t (Γ ++ List.replicate (N.length - Γ.length) .no) { nx := fun _ => post (.val dUnit ()), rt := fun c _ => post c, bk := fun _ => False, ct := fun _ => False }) : t { nx := fun _ H' => Q .non H', rt := Q } (L2.start N vs) H := by
  have hl := h.len
  obtain ⟨F, g, s, q, qx⟩ := h
  have st : State ⟨C, fun _ => E, fun x _ => xp x⟩ ⟨F, H, []⟩ F (L2.start N vs) H (Γ ++ List.replicate (N.length - Γ.length) .no) := by
    refine ⟨fun x d F' σ' H' Γ' k ⟨L, kw, _⟩ hd => qx x d F' H' k (kw.sub (fun _ z => nomatch z) List.nodup_nil) hd, [], g, ?_⟩
    unfold L2.start
    rw [← hl]
    exact slots_app s (slots_pad _)
  refine hz ⟨F, H, []⟩ F (L2.start N vs) H _ rfl st ⟨fun F' σ' H' Γ' p s' => ?_, fun F' σ' H' Γ' v c L L' p kw rc sl => ?_, fun _ _ _ _ z => z.elim, fun _ _ _ _ z => z.elim⟩
  · obtain ⟨_, L, kw, _⟩ := s'
    refine q .non F' H' (.val dUnit ()) [] p (kw.sub (fun _ z => nomatch z) List.nodup_nil) ⟨rfl, .non, rfl, rfl⟩
  · have nd : (L.map Prod.fst).Nodup := by
      have := kw.nd
      rw [List.map_append] at this
      exact (List.nodup_append.mp this).1
    exact q v F' H' c L p (kw.sub (fun p hp => List.mem_append_left _ hp) nd) rc
/-- THE BODY of such a def -/
theorem Fn.body {N : List Str} {post : Cell → Prop} {vs : List V} {H : Hp} {Q : VK} {t : TS} (h : Fn C Γ post vs H Q)
    (hz : Z (calm C) t (Γ ++ List.replicate (N.length - Γ.length) .no) { nx := fun _ => post (.val dUnit ()), rt := fun c _ => post c, bk := fun _ => False, ct := fun _ => False }) : t { nx := fun _ H' => Q .non H', rt := Q } (L2.start N vs) H := FnX.body (E := fun _ _ _ => False) h.x hz
/-! calls that may raise -/
theorem w_callX {sp : Sp} {E : St → XK} {tl : TA} {kx : α → Prop} (hE : E = Y.E) (h : WA Y tl Γ fun cs => SpX Y.g sp cs (fun c => ∃ r, c = .val d r ∧ kx r) fun x => Y.kx x Γ) : W Y (tCallS sp E tl) Γ d kx := fun e F σ H s Q q => h e F σ H s _ fun vs F1 H1 cs hc g1 sl => by
  subst hE
  refine hc vs H1 Q _ ⟨F1, g1.base, sl, fun v F' H' c L ⟨r, ec, kr⟩ g2 rc => ?_, fun x d F' H' kx' g2 hd => ?_⟩
  · subst ec
    obtain ⟨e1, v', e2, rv⟩ := rc
    subst e1
    cases (Option.some.inj e2)
    exact q v F' H' r kr (g1.trans0 g2) rv
  · exact s.1 x d F' σ H' Γ kx' ((s.grow g1).grow g2).2 hd
theorem o_callX {sp : Sp} {E : St → XK} {tl : TA} {od : @OD α d} {kx : α → Prop} (hE : E = Y.E) (h : WA Y tl Γ fun cs => SpX Y.g sp cs (fun c => ∃ r, c = .own d od none r ∧ kx r) fun x => Y.kx x Γ) : O Y (tCallS sp E tl) Γ od kx := fun e F σ H s Q q => h e F σ H s _ fun vs F1 H1 cs hc g1 sl => by
  subst hE
  refine hc vs H1 Q _ ⟨F1, g1.base, sl, fun v F' H' c L ⟨r, ec, kr⟩ g2 rc => ?_, fun x d F' H' kx' g2 hd => ?_⟩
  · subst ec
    obtain ⟨v', e2, _, rv⟩ := rc
    cases (Option.some.inj e2)
    exact q v F' H' L r kr (by simpa using g1.trans g2) rv
  · exact s.1 x d F' σ H' Γ kx' ((s.grow g1).grow g2).2 hd
end
end G

/-! G4: comprehensions, sorted, isinstance, equality, sets and dicts. -/
namespace G
open PySem L2

/-! ### targets that touch but their own slots -/
def Tg (g : TG) (js : List Nat) : Prop := ∀ v σ H (Q : St → Hp → Prop), g v σ H Q → g v σ H fun σ' H' => wipe σ' js = wipe σ js ∧ Q σ' H'
def Tgs (g : TGs) (js : List Nat) : Prop := ∀ vs σ H (Q : St → Hp → Prop), g vs σ H Q → g vs σ H fun σ' H' => wipe σ' js = wipe σ js ∧ Q σ' H'
theorem set_comm {α : Type _} (l : List α) {i j : Nat} (a b : α) (h : i ≠ j) : (l.set i a).set j b = (l.set j b).set i a := by
  apply List.ext_getElem?
  intro m
  simp only [List.getElem?_set, List.length_set]
  by_cases h1 : j = m <;> by_cases h2 : i = m <;> simp_all
theorem wipe_at {σ : St} {i : Nat} {o : Option V} : ∀ {js : List Nat}, i ∈ js → wipe (σ.set i o) js = wipe σ js
  | [], h => nomatch h
  | j :: js, h => by
    unfold wipe
    by_cases hi : i ∈ js
    · rw [wipe_at hi]
    · have e : i = j := by
        rcases List.mem_cons.mp h with h | h
        · exact h
        · exact absurd h hi
      subst e
      have q : ∀ (js : List Nat), i ∉ js → wipe (σ.set i o) js = (wipe σ js).set i o := by
        intro js
        induction js with
        | nil => intro _; rfl
        | cons m js ih =>
          intro h
          unfold wipe
          rw [ih (fun z => h (List.mem_cons_of_mem _ z)), set_comm _ _ _ (fun z => h (by rw [z]; exact List.mem_cons_self))]
      rw [q js hi]
      exact List.set_set _
theorem tg_name {i : Nat} {js : List Nat} (h : i ∈ js) : Tg (gName i) js := fun v σ H Q q => ⟨wipe_at h, q⟩
theorem tgs_nil {js : List Nat} : Tgs gNil js := fun vs σ H Q ⟨e, q⟩ => ⟨e, rfl, q⟩
theorem tgs_cons {g : TG} {gs : TGs} {js : List Nat} (h : Tg g js) (hs : Tgs gs js) (m : ∀ v σ H (Q Q' : St → Hp → Prop), (∀ σ H, Q σ H → Q' σ H) → g v σ H Q → g v σ H Q') (ms : ∀ v σ H (Q Q' : St → Hp → Prop), (∀ σ H, Q σ H → Q' σ H) → gs v σ H Q → gs v σ H Q') : Tgs (gCons g gs) js := fun vs σ H Q ⟨v, r, e, q⟩ =>
  ⟨v, r, e, m _ _ _ _ _ (fun σ1 H1 ⟨e1, q1⟩ => ms _ _ _ _ _ (fun σ2 H2 ⟨e2, q2⟩ => ⟨e2.trans e1, q2⟩) (hs _ _ _ _ q1)) (h _ _ _ _ q)⟩
def MoG (g : TG) : Prop := ∀ v σ H (Q Q' : St → Hp → Prop), (∀ σ H, Q σ H → Q' σ H) → g v σ H Q → g v σ H Q'
def MoGs (g : TGs) : Prop := ∀ v σ H (Q Q' : St → Hp → Prop), (∀ σ H, Q σ H → Q' σ H) → g v σ H Q → g v σ H Q'
theorem mo_name {i : Nat} : MoG (gName i) := fun _ _ _ _ _ m q => m _ _ q
theorem mos_nil : MoGs gNil := fun _ _ _ _ _ m ⟨e, q⟩ => ⟨e, m _ _ q⟩
theorem mos_cons {g : TG} {gs : TGs} (h : MoG g) (hs : MoGs gs) : MoGs (gCons g gs) := fun _ _ _ _ _ m ⟨v, r, e, q⟩ => ⟨v, r, e, h _ _ _ _ _ (fun _ _ q => hs _ _ _ _ _ m q) q⟩
theorem mo_tup {K : PySem.W.Frag} {n : Nat} {gs : TGs} (h : MoGs gs) : MoG (gTup K n gs) := fun _ _ _ _ _ m ⟨a, xs, e, s, l, q⟩ => ⟨a, xs, e, s, l, h _ _ _ _ _ m q⟩
theorem tgs_cons' {g : TG} {gs : TGs} {js : List Nat} (h : Tg g js ∧ MoG g) (hs : Tgs gs js ∧ MoGs gs) : Tgs (gCons g gs) js ∧ MoGs (gCons g gs) := ⟨tgs_cons h.1 hs.1 h.2 hs.2, mos_cons h.2 hs.2⟩
theorem tgs_nil' {js : List Nat} : Tgs gNil js ∧ MoGs gNil := ⟨tgs_nil, mos_nil⟩
theorem tg_name' {i : Nat} {js : List Nat} (h : i ∈ js) : Tg (gName i) js ∧ MoG (gName i) := ⟨tg_name h, mo_name⟩
theorem tg_tup' {K : PySem.W.Frag} {n : Nat} {gs : TGs} {js : List Nat} (h : Tgs gs js ∧ MoGs gs) : Tg (gTup K n gs) js ∧ MoG (gTup K n gs) := ⟨fun _ _ _ _ ⟨a, xs, e, s, l, q⟩ => ⟨a, xs, e, s, l, h.1 _ _ _ _ q⟩, mo_tup h.2⟩

def wipeC (Γ : List Cell) : List Nat → List Cell
  | [] => Γ
  | v :: vs => (wipeC Γ vs).set v .no
section
variable {C : GCtx} {Y : YC} {e : En} {F F' : Hp} {σ : St} {H H' : Hp} {Γ : List Cell}
theorem State.len (s : State Y e F σ H Γ) : σ.length = Γ.length := let ⟨_, _, _, sl⟩ := s; sl.len
theorem State.wipe (s : State Y e F σ H Γ) : ∀ vs : List Nat, State Y e F (wipe σ vs) H (wipeC Γ vs)
  | [] => s
  | v :: vs => by
    have ih := State.wipe s vs
    unfold L2.wipe wipeC
    cases q : (wipeC Γ vs)[v]? with
    | some c => exact ih.forget q
    | none =>
      have h1 : (wipeC Γ vs).length ≤ v := List.getElem?_eq_none_iff.mp q
      have h2 : (L2.wipe σ vs).length ≤ v := by rw [ih.len]; exact h1
      rw [List.set_eq_of_length_le h1, List.set_eq_of_length_le h2]
      exact ih
theorem State.growL {L' : LO} (s : State Y e F σ H Γ) (g : Wk ⟨F, H, []⟩ F' L' H') : State Y e F' σ H' Γ := by
  obtain ⟨hx, L, k, sl⟩ := s
  have k2 := k.trans g
  have k3 : Wk e F' ([] ++ L' ++ L) H' := by simpa using k2
  exact ⟨hx, L, by simpa using k3.drop, sl.mono g.ff⟩
end

/-! ### comprehensions -/
section
variable {C : GCtx} {Y : YC} {Γ : List Cell} {te ta tb tc : TE} {t u tt : TT} {α β γ δ : Type} {d1 : Dat α} {d : Dat α} {d2 : Dat β} {k : Ks} {t1 t2 ts : TS} {g : TG}

def CompB (Y : YC) (g : TG) (tt : TT) (te : TE) {α β : Type} (d : Dat α) (d2 : Dat β) (kx : List β → Prop) (get : Nat → Option α) (n : Nat) (Γ : List Cell) : Prop :=
  ∃ I : Nat → List β → Prop, I 0 [] ∧ (∀ i x ys, get i = some x → I i ys → A Y g Γ d x fun Γ2 => T Y tt Γ2 fun b => (b = true → W Y te Γ2 d2 fun y => ys.length < PySem.sizeLine ∧ I (i + 1) (ys ++ [y])) ∧ (b = false → I (i + 1) ys)) ∧ ∀ ys, I n ys → kx ys
/-- one turn -/
theorem comp_turn {e : En} {F1 : Hp} {σ : St} {H1 : Hp} {vs : List Nat} {D : Addr} {x : α} {v : V} {I I' : List β → Prop} (s1 : State Y e F1 σ H1 Γ) (hT : Tg g vs)
    (hs : ∀ ys, I ys → A Y g (wipeC Γ vs) d x fun Γ2 => T Y tt Γ2 fun b => (b = true → W Y te Γ2 d2 fun y => ys.length < PySem.sizeLine ∧ I' (ys ++ [y])) ∧ (b = false → I' ys)) (rx : ∀ F', Same F1 F' → d.rep Y.g F' v x) {H : Hp}
    (h : ∃ F' acc ys, Wk ⟨F1, H1, []⟩ F' [(D, .lst acc)] H ∧ Reps d2 Y.g F' acc ys ∧ I ys) :
    g v (wipe σ vs) H fun σ2 H2 => wipe σ2 vs = wipe σ vs ∧ tt σ2 H2 fun b H3 =>
      if b = true then te σ2 H3 fun y H4 => ∃ acc, H4 D = some (.lst acc) ∧ acc.length < PySem.sizeLine ∧ (∃ F' acc' ys, Wk ⟨F1, H1, []⟩ F' [(D, .lst acc')] (upd H4 D (.lst (acc ++ [y]))) ∧ Reps d2 Y.g F' acc' ys ∧ I' ys) else (∃ F' acc ys, Wk ⟨F1, H1, []⟩ F' [(D, .lst acc)] H3 ∧ Reps d2 Y.g F' acc ys ∧ I' ys) := by
  obtain ⟨F', acc, ys, kw, r, hi⟩ := h
  have st := (s1.growL kw).wipe vs
  have ww : ∀ σ0 : St, wipe (wipe σ0 vs) vs = wipe σ0 vs := by
    intro σ0
    have : ∀ (l : List Nat) (σ1 : St), (∀ j ∈ l, (σ1[j]? = none ∨ σ1[j]? = some none)) → wipe σ1 l = σ1 := by
      intro l
      induction l with
      | nil => intro _ _; rfl
      | cons j l ih =>
        intro σ1 hj
        unfold wipe
        rw [ih σ1 fun m hm => hj m (List.mem_cons_of_mem _ hm)]
        apply List.ext_getElem?
        intro m
        rw [List.getElem?_set]
        by_cases hm : j = m
        · subst hm
          rcases hj j List.mem_cons_self with z | z
          · rw [z, if_pos rfl, if_neg (Nat.not_lt.mpr (List.getElem?_eq_none_iff.mp z))]
          · rw [z, if_pos rfl, if_pos (List.getElem?_eq_some_iff.mp z).1]
        · rw [if_neg hm]
    refine this vs _ fun j hj => ?_
    cases q : (wipe σ0 vs)[j]? with
    | none => exact .inl rfl
    | some o =>
      cases o with
      | none => exact .inr rfl
      | some y => exact absurd hj (wipe_some q).2
  have key := hs ys hi e F' _ H v st (rx F' kw.ff) (fun σ2 H2 => tt σ2 H2 fun b H3 =>
      if b = true then te σ2 H3 fun y H4 => ∃ acc, H4 D = some (.lst acc) ∧ acc.length < PySem.sizeLine ∧ (∃ F' acc' ys, Wk ⟨F1, H1, []⟩ F' [(D, .lst acc')] (upd H4 D (.lst (acc ++ [y]))) ∧ Reps d2 Y.g F' acc' ys ∧ I' ys) else (∃ F' acc ys, Wk ⟨F1, H1, []⟩ F' [(D, .lst acc)] H3 ∧ Reps d2 Y.g F' acc ys ∧ I' ys)) fun σ2 Γ2 h2 st2 => by
    refine h2 e F' σ2 H st2 _ fun b F3 H3 kb g3 => ?_
    have kw3 := kw.trans0 g3
    cases b with
    | false => exact ⟨F3, acc, ys, kw3, r.mono g3.ff, kb.2 rfl⟩
    | true =>
      refine kb.1 rfl e F3 σ2 H3 (st2.grow g3) _ fun y F4 H4 yv ⟨hl, ky⟩ g4 ry => ?_
      have kw4 := kw3.trans0 g4
      have hD : H4 D = some (.lst acc) := (kw4.ow (D, .lst acc) (by simp)).2.1
      exact ⟨acc, hD, by rw [r.len]; exact hl, F4, acc ++ [y], ys ++ [yv], kw4.put (fun _ z => by cases z), (r.mono (g3.ff.trans g4.ff)).append (Reps.one ry), ky⟩
  have key2 := hT v _ H _ key
  rw [ww] at key2
  exact key2
theorem o_lc {tl : TE} {vs : List Nat} {kx : List β → Prop} (hT : Tg g vs ∧ MoG g) (h : W Y tl Γ (dList (d := d)) fun xs => CompB Y g tt te d d2 kx (fun i => xs[i]?) xs.length (wipeC Γ vs)) : O Y (tLc (iList Y.K tl) g tt te vs) Γ (oList (d := d2)) kx := fun e F σ H s Q q => h e F σ H s _ fun v F1 H1 xs ⟨I, h0, hs, hd⟩ g1 ⟨a, us, e1, hq, r⟩ => by
  subst e1
  refine ⟨a, rfl, ⟨us, g1.fh.seq hq⟩, fun D hD => ?_⟩
  have kw0 : Wk ⟨F1, H1, []⟩ F1 [(D, .lst [])] (upd H1 D (.lst [])) := g1.base.own hD (fun _ z => by cases z)
  refine lc_list (K := Y.K) (a := a) (xs := us) (fun i H => ∃ F' acc ys, Wk ⟨F1, H1, []⟩ F' [(D, .lst acc)] H ∧ Reps d2 Y.g F' acc ys ∧ I i ys) ⟨F1, [], [], kw0, trivial, h0⟩ (fun i H _ ⟨F', acc, ys, kw, _⟩ => (kw.ff.trans kw.fh).seq hq) (fun i w H hw p => ?_) fun H ⟨F', acc, ys, kw, ra, hi⟩ => ?_
  · obtain ⟨x, hx, rx⟩ := r.getV hw
    exact comp_turn (s.grow g1) hT.1 (hs i x · hx) (fun F' sm => d.mono sm rx) p
  · rw [r.len] at hi
    exact q _ F' H _ ys (hd ys hi) (by simpa using g1.trans kw) ⟨D, acc, rfl, rfl, ra⟩
theorem o_lcT {tl : TE} {vs : List Nat} {kx : List β → Prop} (hT : Tg g vs ∧ MoG g) (h : W Y tl Γ (dTup (d := d)) fun xs => CompB Y g tt te d d2 kx (fun i => xs.l[i]?) xs.l.length (wipeC Γ vs)) : O Y (tLc (L2.iTup Y.K tl) g tt te vs) Γ (oList (d := d2)) kx := fun e F σ H s Q q => h e F σ H s _ fun v F1 H1 xs ⟨I, h0, hs, hd⟩ g1 ⟨a, us, e1, hq, r⟩ => by
  subst e1
  refine ⟨a, rfl, ⟨us, (hq.mono g1.fh).sq⟩, fun D hD => ?_⟩
  have kw0 : Wk ⟨F1, H1, []⟩ F1 [(D, .lst [])] (upd H1 D (.lst [])) := g1.base.own hD (fun _ z => by cases z)
  refine lc_tup (K := Y.K) (a := a) (xs := us) (fun i H => ∃ F' acc ys, Wk ⟨F1, H1, []⟩ F' [(D, .lst acc)] H ∧ Reps d2 Y.g F' acc ys ∧ I i ys) ⟨F1, [], [], kw0, trivial, h0⟩ (fun i H _ ⟨F', acc, ys, kw, _⟩ => (hq.mono (kw.ff.trans kw.fh)).sq) (fun i w H hw p => ?_) fun H ⟨F', acc, ys, kw, ra, hi⟩ => ?_
  · obtain ⟨x, hx, rx⟩ := r.getV hw
    exact comp_turn (s.grow g1) hT.1 (hs i x · hx) (fun F' sm => d.mono sm rx) p
  · rw [r.len] at hi
    exact q _ F' H _ ys (hd ys hi) (by simpa using g1.trans kw) ⟨D, acc, rfl, rfl, ra⟩
theorem o_lcR {vs : List Nat} {kx : List β → Prop} (hT : Tg g vs ∧ MoG g) (h : R Y ta Γ dInt fun n => -(2 ^ 62) ≤ n ∧ n < 2 ^ 62 ∧ CompB Y g tt te dInt d2 kx (rng 0 n.toNat) n.toNat (wipeC Γ vs)) : O Y (tLc (iRng1 (tCons ta tNil)) g tt te vs) Γ (oList (d := d2)) kx := fun e F σ H s Q q => h e F σ H s _ fun v F1 H1 n ⟨l1, l2, I, h0, hs, hd⟩ g1 r1 => by
  cases (show v = .int n from r1)
  refine ⟨n, rfl, l1, l2, fun D hD => ?_⟩
  have kw0 : Wk ⟨F1, H1, []⟩ F1 [(D, .lst [])] (upd H1 D (.lst [])) := g1.base.own hD (fun _ z => by cases z)
  refine lc_range (lo := 0) (n := n.toNat) (fun i H => ∃ F' acc ys, Wk ⟨F1, H1, []⟩ F' [(D, .lst acc)] H ∧ Reps d2 Y.g F' acc ys ∧ I i ys) ⟨F1, [], [], kw0, trivial, h0⟩ (fun i H hw p => ?_) fun H ⟨F', acc, ys, kw, ra, hi⟩ => ?_
  · exact comp_turn (d := dInt) (s.grow g1) hT.1 (hs i (0 + i) · (by unfold rng; rw [if_pos hw])) (fun F' sm => rfl) p
  · exact q _ F' H _ ys (hd ys hi) (by simpa using g1.trans kw) ⟨D, acc, rfl, rfl, ra⟩
theorem wipe_lists {σ : St} {vs : List Nat} : True := trivial
/-- no test -/
theorem t_yes {kb : Bool → Prop} (h : kb true) : T Y tYes Γ kb := fun e F σ H s Q q => q true F H h s.base
theorem getElem?_filterTake {α : Type} (p : α → Bool) (xs : List α) {i : Nat} {x : α} (h : xs[i]? = some x) : (xs.take (i + 1)).filter p = (xs.take i).filter p ++ (if p x then [x] else []) := by
  rw [List.take_add_one, h, List.filter_append]
  congr 1
  cases hp : p x <;> simp [hp]
/-- [f x for x in xs if p x] -/
theorem compB_map {get : Nat → Option α} {n : Nat} {kx : List β → Prop} (xs : List α) (p : α → Bool) (f : α → β) (hn : n = xs.length) (hg : ∀ i, get i = xs[i]?) (hl : xs.length ≤ PySem.sizeLine)
    (h : ∀ x, x ∈ xs → A Y g Γ d x fun Γ2 => T Y tt Γ2 fun b => b = p x ∧ (p x = true → W Y te Γ2 d2 (· = f x))) (hk : kx ((xs.filter p).map f)) : CompB Y g tt te d d2 kx get n Γ := by
  subst hn
  refine ⟨fun i ys => ys = ((xs.take i).filter p).map f, rfl, fun i x ys hx hi => ?_, fun ys e => ?_⟩
  · rw [hg] at hx
    have hlt : i < xs.length := (List.getElem?_eq_some_iff.mp hx).1
    have hm : x ∈ xs := List.mem_of_getElem? hx
    intro e F σ H v s r Q q
    refine h x hm e F σ H v s r Q fun σ' Γ' k' s' => q σ' Γ' (t_mono k' fun b ⟨hb, hw⟩ => ⟨fun z => ?_, fun z => ?_⟩) s'
    · subst z
      refine w_mono (hw hb.symm) fun y ey => ⟨?_, ?_⟩
      · subst hi
        rw [List.length_map]
        have h1 := List.length_filter_le p (xs.take i)
        rw [List.length_take] at h1
        omega
      · subst hi ey
        rw [getElem?_filterTake p xs hx, List.map_append, if_pos hb.symm]; rfl
    · subst z
      subst hi
      rw [getElem?_filterTake p xs hx, ← hb]; simp
  · subst e
    rw [List.take_length]
    exact hk
def rngL (lo : Int) (n : Nat) : List Int := (List.range n).map fun i : Nat => lo + (i : Int)
theorem rng_get (lo : Int) (n i : Nat) : rng lo n i = (rngL lo n)[i]? := by
  unfold rng rngL
  rw [List.getElem?_map]
  by_cases h : i < n
  · rw [if_pos h, List.getElem?_range h]; rfl
  · rw [if_neg h, List.getElem?_eq_none (by simpa using h)]; rfl
theorem rngL_len (lo : Int) (n : Nat) : (rngL lo n).length = n := by simp [rngL]

/-! ### sorted -/
def isort (xs : List Int) : List Int := xs.mergeSort (fun a b => decide (a ≤ b))
theorem isort_perm (xs : List Int) : (isort xs).Perm xs := List.mergeSort_perm _ _
theorem isort_pw (xs : List Int) : (isort xs).Pairwise (· ≤ ·) := by
  have h := List.pairwise_mergeSort (le := fun a b : Int => decide (a ≤ b)) (by intro a b c; simp; omega) (by intro a b; simp; omega) xs
  exact h.imp (by simp)
theorem sorted_eq {xs ys : List Int} (p : xs.Perm ys) (h1 : xs.Pairwise (· ≤ ·)) (h2 : ys.Pairwise (· ≤ ·)) : xs = ys :=
  List.Perm.eq_of_pairwise (fun a b _ _ h h' => Int.le_antisymm h h') h1 h2 p
theorem isort_eq {xs ys : List Int} (p : ys.Perm xs) (h : ys.Pairwise (· ≤ ·)) : ys = isort xs := sorted_eq (p.trans (isort_perm xs).symm) h (isort_pw xs)
theorem o_sorted {kx : List Int → Prop} (h : R Y ta Γ (dList (d := dInt)) fun xs => kx (isort xs)) : O Y (tCB (rSortedI Y.K) (tCons ta tNil)) Γ (oList (d := dInt)) kx := fun e F σ H s Q q => h e F σ H s _ fun v F' H' xs kx g ⟨a, vs, e1, hs, r⟩ => by
  subst e1
  cases r.ints
  refine ⟨a, xs, rfl, hs, fun ns' p pm pw hp => ?_⟩
  rw [isort_eq pm pw]
  obtain ⟨h1, h2⟩ := o_new (d := dInt) (L := []) g.base hp (Reps.ofInts (isort xs))
  exact q _ F' _ _ _ kx (by simpa using g.trans h1) h2

/-! ### isinstance -/
class Ty (α : Type) [d : Dat α] where
  tn : String
  ty : ∀ {C : GCtx} {H : Hp} {v : V} {x : α}, d.rep C H v x → TyX C.K H v (.type tn)
instance tyInt : Ty Int := ⟨"int", fun {C H v x} h => by cases (show v = .int x from h); exact .base (.int x)⟩
instance tyBool : Ty Bool := ⟨"bool", fun {C H v x} h => by cases (show v = .bl x from h); exact .base (.bl x)⟩
instance tyStr : Ty Str := ⟨"str", fun {C H v x} h => by cases (show v = .str x from h); exact .base (.str x)⟩
theorem ty_sql {K : PySem.W.Frag} {H : Hp} {a : Addr} {xs : List V} (h : SqL K H a xs) : TyX K H (.ref a) (.type "list") := by
  rcases h with (h | ⟨o, h⟩) | ⟨o, its, n, h, hc, _⟩
  · exact .base (.lst h)
  · exact .base (.frz h)
  · exact .kList h hc
theorem ty_tpa {K : PySem.W.Frag} {H : Hp} {a : Addr} {xs : List V} (h : TpA K H a xs) : TyX K H (.ref a) (.type "tuple") := by
  rcases h with h | (h | ⟨o, h⟩) | ⟨o, its, n, h, hc, _⟩
  · exact .base (.tup h)
  · cases h
  · cases h
  · exact .kTuple h hc
instance tyList {α : Type} [d : Dat α] : Ty (List α) := ⟨"list", fun ⟨a, vs, e, h, r⟩ => by subst e; exact ty_sql (.inl h)⟩
instance tyTup {α : Type} [d : Dat α] : Ty (Tup α) := ⟨"tuple", fun ⟨a, vs, e, h, r⟩ => by subst e; exact ty_tpa h⟩
instance tyPair {α β : Type} [d1 : Dat α] [d2 : Dat β] : Ty (α × β) := ⟨"tuple", fun ⟨a, _, _, e, h, _⟩ => by subst e; exact ty_tpa h⟩
instance tyT3 {α β γ : Type} [d1 : Dat α] [d2 : Dat β] [d3 : Dat γ] : Ty (T3 α β γ) := ⟨"tuple", fun ⟨a, _, _, _, e, h, _⟩ => by subst e; exact ty_tpa h⟩
instance tyT4 {α β γ δ : Type} [d1 : Dat α] [d2 : Dat β] [d3 : Dat γ] [d4 : Dat δ] : Ty (T4 α β γ δ) := ⟨"tuple", fun ⟨a, _, _, _, _, e, h, _⟩ => by subst e; exact ty_tpa h⟩
theorem w_isi [ty : @Ty α d] {c : String} {b : Bool} {kx : Bool → Prop} (hk : PySem.W.kitOne Y.K (.type ty.tn) (.type c) = some b) (h : R Y ta Γ d fun _ => kx b) : W Y (tCB (rIsi Y.K) (tCons ta (tCons (tC (.ty c)) tNil))) Γ dBool kx := fun e F σ H s Q q => h e F σ H s _ fun v F' H' x kx g r =>
  ⟨v, .ty c, .type ty.tn, .type c, b, rfl, .ty c, ty.ty r, hk, q _ F' H' b kx g rfl⟩

/-! ### equality of data -/
class DE (α : Type) [d : Dat α] where
  toD : α → PyData
  dep : Nat
  dp : ∀ {C : GCtx} {H : Hp} {v : V} {x : α}, d.rep C H v x → Dp C.K H v (toD x)
  lay : ∀ x, (toD x).plain = true
  deep : ∀ x, (toD x).depth ≤ dep
  eqv : ∀ x y, PyData.eqv (toD x) (toD y) = true ↔ x = y
theorem beq_iff' {α : Type} [BEq α] [LawfulBEq α] {a b : α} : (a == b) = true ↔ a = b := by simp
instance deInt : DE Int := ⟨.int, 1, fun {C H v x} h => by cases (show v = .int x from h); exact .int x, fun _ => by simp [PyData.plain], fun _ => by simp [PyData.depth], fun x y => by simp [PyData.eqv]⟩
instance deStr : DE Str := ⟨.str, 1, fun {C H v x} h => by cases (show v = .str x from h); exact .str x, fun _ => by simp [PyData.plain], fun _ => by simp [PyData.depth], fun x y => by simp [PyData.eqv]⟩
instance deBool : DE Bool := ⟨.bool, 1, fun {C H v x} h => by cases (show v = .bl x from h); exact .bl x, fun _ => by simp [PyData.plain], fun _ => by simp [PyData.depth], fun x y => by simp [PyData.eqv]⟩
theorem dpAll_of [de : @DE α d] {H : Hp} : ∀ {vs : List V} {xs : List α}, Reps d C H vs xs → DpAll C.K H vs (xs.map de.toD)
  | [], [], _ => .nil
  | _ :: _, _ :: _, h => .cons (de.dp h.1) (dpAll_of h.2)
  | [], _ :: _, h => h.elim
  | _ :: _, [], h => h.elim
theorem eqvAll_of [de : @DE α d] : ∀ xs ys : List α, PyData.eqvAll (xs.map de.toD) (ys.map de.toD) = true ↔ xs = ys
  | [], [] => by simp [PyData.eqvAll]
  | x :: xs, y :: ys => by simp [PyData.eqvAll, de.eqv, eqvAll_of xs ys]
  | [], _ :: _ => by simp [PyData.eqvAll]
  | _ :: _, [] => by simp [PyData.eqvAll]
theorem layAll_of [de : @DE α d] : ∀ xs : List α, PyData.plainAll (xs.map de.toD) = true
  | [] => by simp [PyData.plainAll]
  | x :: xs => by simp [PyData.plainAll, de.lay, layAll_of xs]
theorem depAll_of [de : @DE α d] : ∀ xs : List α, PyData.depthAll (xs.map de.toD) ≤ de.dep
  | [] => by simp [PyData.depthAll]
  | x :: xs => by
    simp only [List.map_cons, PyData.depthAll]
    exact Nat.max_le.mpr ⟨de.deep x, depAll_of xs⟩
instance deList [de : @DE α d] : @DE (List α) dList :=
  ⟨fun xs => .list (xs.map de.toD), de.dep + 1, fun ⟨a, vs, e, h, r⟩ => by subst e; exact .lst h (dpAll_of r), fun xs => by simp [PyData.plain, layAll_of], fun xs => by simp [PyData.depth, depAll_of], fun xs ys => by simp [PyData.eqv, eqvAll_of]⟩
instance deTup [de : @DE α d] : @DE (Tup α) dTup :=
  ⟨fun xs => .tuple (xs.l.map de.toD), de.dep + 1, fun ⟨a, vs, e, h, r⟩ => by subst e; exact .tup h.sq (dpAll_of r), fun xs => by simp [PyData.plain, layAll_of], fun xs => by simp [PyData.depth, depAll_of], fun xs ys => by
    obtain ⟨xs⟩ := xs
    obtain ⟨ys⟩ := ys
    simp [PyData.eqv, eqvAll_of]⟩
instance dePair {α β : Type} {d1 : Dat α} {d2 : Dat β} [de1 : @DE α d1] [de2 : @DE β d2] : @DE (α × β) dPair :=
  ⟨fun x => .tuple [de1.toD x.1, de2.toD x.2], max de1.dep de2.dep + 1, fun ⟨a, v1, v2, e, h, r1, r2⟩ => by subst e; exact .tup h.sq (.cons (de1.dp r1) (.cons (de2.dp r2) .nil)), fun x => by simp [PyData.plain, PyData.plainAll, de1.lay, de2.lay],
    fun x => by have h1 := de1.deep x.1; have h2 := de2.deep x.2; simp [PyData.depth, PyData.depthAll]; omega, fun x y => by
    obtain ⟨x1, x2⟩ := x
    obtain ⟨y1, y2⟩ := y
    simp [PyData.eqv, PyData.eqvAll, de1.eqv, de2.eqv]⟩
instance deT3 {α β γ : Type} {d1 : Dat α} {d2 : Dat β} {d3 : Dat γ} [de1 : @DE α d1] [de2 : @DE β d2] [de3 : @DE γ d3] : @DE (T3 α β γ) dT3 :=
  ⟨fun x => .tuple [de1.toD x.a, de2.toD x.b, de3.toD x.c], max de1.dep (max de2.dep de3.dep) + 1, fun ⟨a, v1, v2, v3, e, h, r1, r2, r3⟩ => by subst e; exact .tup h.sq (.cons (de1.dp r1) (.cons (de2.dp r2) (.cons (de3.dp r3) .nil))), fun x => by simp [PyData.plain, PyData.plainAll, de1.lay, de2.lay, de3.lay],
    fun x => by have h1 := de1.deep x.a; have h2 := de2.deep x.b; have h3 := de3.deep x.c; simp [PyData.depth, PyData.depthAll]; omega, fun x y => by
    obtain ⟨x1, x2, x3⟩ := x
    obtain ⟨y1, y2, y3⟩ := y
    simp [PyData.eqv, PyData.eqvAll, de1.eqv, de2.eqv, de3.eqv]⟩
instance deT4 {α β γ δ : Type} {d1 : Dat α} {d2 : Dat β} {d3 : Dat γ} {d4 : Dat δ} [de1 : @DE α d1] [de2 : @DE β d2] [de3 : @DE γ d3] [de4 : @DE δ d4] : @DE (T4 α β γ δ) dT4 :=
  ⟨fun x => .tuple [de1.toD x.a, de2.toD x.b, de3.toD x.c, de4.toD x.d], max de1.dep (max de2.dep (max de3.dep de4.dep)) + 1, fun ⟨a, v1, v2, v3, v4, e, h, r1, r2, r3, r4⟩ => by subst e; exact .tup h.sq (.cons (de1.dp r1) (.cons (de2.dp r2) (.cons (de3.dp r3) (.cons (de4.dp r4) .nil)))), fun x => by simp [PyData.plain, PyData.plainAll, de1.lay, de2.lay, de3.lay, de4.lay],
    fun x => by have h1 := de1.deep x.a; have h2 := de2.deep x.b; have h3 := de3.deep x.c; have h4 := de4.deep x.d; simp [PyData.depth, PyData.depthAll]; omega, fun x y => by
    obtain ⟨x1, x2, x3, x4⟩ := x
    obtain ⟨y1, y2, y3, y4⟩ := y
    simp [PyData.eqv, PyData.eqvAll, de1.eqv, de2.eqv, de3.eqv, de4.eqv]⟩
theorem de_shaped [de : @DE α d] (hd : de.dep ≤ 64) (x : α) : shP (de.toD x) = true := by
  unfold shP
  rw [de.lay x, decide_eq_true (Nat.le_trans (de.deep x) hd)]
  rfl
theorem de_eqv [de : @DE α d] [DecidableEq α] (x y : α) : PyData.eqv (de.toD x) (de.toD y) = decide (x = y) := by
  by_cases h : x = y
  · rw [decide_eq_true h]; exact (de.eqv x y).mpr h
  · rw [decide_eq_false h]
    cases q : PyData.eqv (de.toD x) (de.toD y) with
    | false => rfl
    | true => exact absurd ((de.eqv x y).mp q) h
theorem w_eqD [de : @DE α d] [DecidableEq α] {kb : Bool → Prop} (hd : de.dep ≤ 64) (h : R Y ta Γ d fun x => R Y tb Γ d fun y => kb (decide (x = y))) : W Y (tOp (rEqP Y.K) ta tb) Γ dBool kb := fun e F σ H s Q q => h e F σ H s _ fun v1 F1 H1 x h1 g1 r1 => h1 e F1 σ H1 (s.grow g1) _ fun v2 F2 H2 y ky g2 r2 =>
  ⟨de.toD x, de.toD y, de.dp (d.mono g2.hh0 r1), de.dp r2, de_shaped hd x, de_shaped hd y, q _ F2 H2 _ ky (g1.trans0 g2) (by rw [de_eqv]; rfl)⟩
theorem w_neD [de : @DE α d] [DecidableEq α] {kb : Bool → Prop} (hd : de.dep ≤ 64) (h : R Y ta Γ d fun x => R Y tb Γ d fun y => kb (!decide (x = y))) : W Y (tOp (rNeP Y.K) ta tb) Γ dBool kb := fun e F σ H s Q q => h e F σ H s _ fun v1 F1 H1 x h1 g1 r1 => h1 e F1 σ H1 (s.grow g1) _ fun v2 F2 H2 y ky g2 r2 =>
  ⟨de.toD x, de.toD y, de.dp (d.mono g2.hh0 r1), de.dp r2, de_shaped hd x, de_shaped hd y, q _ F2 H2 _ ky (g1.trans0 g2) (by rw [de_eqv]; rfl)⟩

/-! ### sets of ints -/
structure IS where
  l : List Int
def isAdd (s : IS) (k : Int) : IS := if k ∈ s.l then s else ⟨s.l ++ [k]⟩
def SetOk (S : Int → Bool) (n : Nat) (s : IS) : Prop := (∀ k, S k = decide (k ∈ s.l)) ∧ n = s.l.length
instance dSet : Dat IS := ⟨fun C F v s => ∃ a S n, v = .ref a ∧ F a = some (SetO C.w a S n) ∧ SetOk S n s, fun m ⟨a, S, n, e, h, o⟩ => ⟨a, S, n, e, m _ _ h, o⟩⟩
instance oSet : OD IS where
  orep C F v s L := ∃ a S n, v = .ref a ∧ L = [(a, SetO C.w a S n)] ∧ SetOk S n s
  omono m := fun h => h
  view := fun ⟨a, S, n, e, h, o⟩ m k => ⟨a, S, n, e, k (a, SetO _ a S n) (by rw [h]; exact List.mem_cons_self), o⟩
theorem o_set0 {kx : IS → Prop} (h : kx ⟨[]⟩) : O Y (tCB (rSet0 Y.w) tNil) Γ oSet kx := fun e F σ H s Q q => ⟨rfl, fun p hp => by
  have k := s.base.own (o := SetO Y.w p (fun _ => false) 0) hp (fun _ z => by cases z)
  exact q _ F _ _ _ h k ⟨p, _, _, rfl, rfl, fun k => by simp, rfl⟩⟩
theorem w_inS {kb : Bool → Prop} (h : R Y ta Γ dInt fun x => R Y tb Γ dSet fun s => kb (decide (x ∈ s.l))) : W Y (tOp (rSIn Y.w) ta tb) Γ dBool kb := fun e F σ H s Q q => h e F σ H s _ fun v1 F1 H1 x h1 g1 r1 => h1 e F1 σ H1 (s.grow g1) _ fun v2 F2 H2 s ky g2 ⟨a, S, n, e2, ha, o⟩ => by
  cases (show v1 = .int x from r1)
  subst e2
  exact ⟨x, a, S, n, rfl, rfl, ha, q _ F2 H2 _ ky (g1.trans0 g2) (by rw [o.1 x]; rfl)⟩
theorem w_notinS {kb : Bool → Prop} (h : R Y ta Γ dInt fun x => R Y tb Γ dSet fun s => kb (!decide (x ∈ s.l))) : W Y (tOp (rSNotIn Y.w) ta tb) Γ dBool kb := fun e F σ H s Q q => h e F σ H s _ fun v1 F1 H1 x h1 g1 r1 => h1 e F1 σ H1 (s.grow g1) _ fun v2 F2 H2 s ky g2 ⟨a, S, n, e2, ha, o⟩ => by
  cases (show v1 = .int x from r1)
  subst e2
  exact ⟨x, a, S, n, rfl, rfl, ha, q _ F2 H2 _ ky (g1.trans0 g2) (by rw [o.1 x]; rfl)⟩
theorem z_sadd {i : Nat} {pin : Option V} {x : IS} (hi : Γ[i]? = some (.own dSet oSet pin x)) (h : R Y te Γ dInt fun y => x.l.length + 1 < PySem.scanBound ∧ k.nx (Γ.set i (.own dSet oSet pin (isAdd x y)))) : Z Y (tDrop (tSAdd Y.w (tVar i) (tCons te tNil))) Γ k := fun e F σ H D hM s c => by
  obtain ⟨v0, _, _, e1, ⟨a0, S0, n0, rfl, rfl, _⟩, kw0, _⟩ := s.mut hi
  have ha0 : H a0 = some (SetO Y.w a0 S0 n0) := (kw0.ow (a0, SetO Y.w a0 S0 n0) (by simp)).2.1
  refine ⟨.ref a0, e1, ⟨a0, S0, n0, rfl, ha0⟩, h e F σ H s _ fun w F' H' y ⟨hl, ky⟩ g rw' => ?_⟩
  cases (show w = .int y from rw')
  obtain ⟨v, Li, rest, e2, ⟨a, S, n, rfl, rfl, o⟩, kw, f⟩ := (s.grow g).mut hi
  rw [e1] at e2
  cases (Option.some.inj e2)
  have ha : H' a0 = some (SetO Y.w a0 S n) := (kw.ow (a0, SetO Y.w a0 S n) (by simp)).2.1
  refine ⟨a0, y, S, n, rfl, rfl, ha, by rw [o.2]; exact hl, ?_⟩
  refine c.nx F' σ _ _ ky (f F' _ [(a0, _)] (isAdd x y) (Same.refl F') (kw.put (fun _ z => by cases z)) ⟨a0, _, _, rfl, rfl, fun j => ?_, ?_⟩)
  · unfold isAdd
    show (S j || decide (j = y)) = _
    rw [o.1 j]
    by_cases hy : y ∈ x.l
    · rw [if_pos hy]
      by_cases hj : j = y
      · subst hj; simp [hy]
      · simp [hj]
    · rw [if_neg hy]
      by_cases hj : j = y
      · subst hj; simp
      · simp [hj]
  · unfold isAdd
    show (if S y = true then n else n + 1) = _
    rw [o.1 y, o.2]
    by_cases hy : y ∈ x.l
    · simp [hy]
    · simp [hy]

/-! ### dicts by ints -/
structure DI (β : Type) where
  kv : List (Int × β)
def KReps {β : Type} (d : Dat β) (C : GCtx) (F : Hp) : List (Key × V) → List (Int × β) → Prop
  | [], [] => True
  | p :: ps, x :: xs => p.1 = Sum.inl x.1 ∧ d.rep C F p.2 x.2 ∧ KReps d C F ps xs
  | _, _ => False
section
variable {F F' : Hp}
theorem KReps.mono (s : Same F F') : ∀ {ps : List (Key × V)} {xs : List (Int × α)}, KReps d C F ps xs → KReps d C F' ps xs
  | [], [], _ => trivial
  | _ :: _, _ :: _, h => ⟨h.1, d.mono s h.2.1, KReps.mono s h.2.2⟩
  | [], _ :: _, h => h.elim
  | _ :: _, [], h => h.elim
theorem KReps.len : ∀ {ps : List (Key × V)} {xs : List (Int × α)}, KReps d C F ps xs → ps.length = xs.length
  | [], [], _ => rfl
  | _ :: _, _ :: _, h => by simp [KReps.len h.2.2]
  | [], _ :: _, h => h.elim
  | _ :: _, [], h => h.elim
theorem valV_cons {κ : Type} [DecidableEq κ] (p : κ × V) (ps : List (κ × V)) (k : κ) : valV (p :: ps) k = if p.1 = k then some p.2 else valV ps k := by
  unfold valV
  by_cases h : p.1 = k
  · rw [List.find?_cons_of_pos (by simp [h]), if_pos h]; rfl
  · rw [List.find?_cons_of_neg (by simp [h]), if_neg h]
theorem lookup_cons' {β : Type} (x : Int × β) (xs : List (Int × β)) (k : Int) : (x :: xs).lookup k = if x.1 = k then some x.2 else xs.lookup k := by
  obtain ⟨a, b⟩ := x
  rw [List.lookup_cons]
  by_cases h : a = k
  · subst h; simp
  · have : (k == a) = false := by simp; exact fun z => h z.symm
    rw [this]; simp [h]
theorem KReps.look : ∀ {ps : List (Key × V)} {xs : List (Int × α)} (k : Int), KReps d C F ps xs → (∀ x, xs.lookup k = some x → ∃ v, valV ps (Sum.inl k) = some v ∧ d.rep C F v x) ∧ (xs.lookup k = none → valV ps (Sum.inl k : Key) = none)
  | [], [], k, _ => ⟨fun _ h => (nomatch h), fun _ => rfl⟩
  | p :: ps, x :: xs, k, h => by
    rw [valV_cons, lookup_cons', h.1]
    by_cases hk : x.1 = k
    · rw [if_pos hk, if_pos (by rw [hk])]
      exact ⟨fun y e => ⟨p.2, rfl, by cases e; exact h.2.1⟩, fun z => (nomatch z)⟩
    · rw [if_neg hk, if_neg (fun z => hk (Sum.inl.inj z))]
      exact KReps.look k h.2.2
  | [], _ :: _, _, h => h.elim
  | _ :: _, [], _, h => h.elim
end
/-- d[k] = v on pairs -/
def putI {β : Type} (kv : List (Int × β)) (k : Int) (v : β) : List (Int × β) := if (kv.lookup k).isSome then kv.map (fun p => if p.1 = k then (k, v) else p) else kv ++ [(k, v)]
instance dDI {α : Type} [d : Dat α] : Dat (DI α) := ⟨fun C F v x => ∃ a ps, v = .ref a ∧ F a = some (.dK ps) ∧ KReps d C F ps x.kv, fun m ⟨a, ps, e, h, r⟩ => ⟨a, ps, e, m _ _ h, r.mono m⟩⟩
instance oDI {α : Type} [d : Dat α] : OD (DI α) where
  orep C F v x L := ∃ a ps, v = .ref a ∧ L = [(a, .dK ps)] ∧ KReps d C F ps x.kv
  omono m := fun ⟨a, ps, e, h, r⟩ => ⟨a, ps, e, h, r.mono m⟩
  view := fun ⟨a, ps, e, h, r⟩ m k => ⟨a, ps, e, k (a, .dK ps) (by rw [h]; exact List.mem_cons_self), r.mono m⟩
theorem w_inDI {kb : Bool → Prop} (h : R Y ta Γ dInt fun x => R Y tb Γ (dDI (d := d)) fun s => kb (s.kv.lookup x).isSome) : W Y (tDIn ta tb) Γ dBool kb := fun e F σ H s Q q => h e F σ H s _ fun v1 F1 H1 x h1 g1 r1 => h1 e F1 σ H1 (s.grow g1) _ fun v2 F2 H2 s ky g2 ⟨a, ps, e2, ha, r⟩ => by
  cases (show v1 = .int x from r1)
  subst e2
  refine ⟨a, _, rfl, DGet.k (k := Sum.inl x) ha, q _ F2 H2 _ ky (g1.trans0 g2) ?_⟩
  have l := r.look x
  cases hq : s.kv.lookup x with
  | none => rw [l.2 hq]; rfl
  | some y => obtain ⟨v, hv, _⟩ := l.1 y hq; rw [hv]; rfl
theorem w_notinDI {kb : Bool → Prop} (h : R Y ta Γ dInt fun x => R Y tb Γ (dDI (d := d)) fun s => kb (!(s.kv.lookup x).isSome)) : W Y (tDNotIn ta tb) Γ dBool kb := fun e F σ H s Q q => h e F σ H s _ fun v1 F1 H1 x h1 g1 r1 => h1 e F1 σ H1 (s.grow g1) _ fun v2 F2 H2 s ky g2 ⟨a, ps, e2, ha, r⟩ => by
  cases (show v1 = .int x from r1)
  subst e2
  refine ⟨a, _, rfl, DGet.k (k := Sum.inl x) ha, q _ F2 H2 _ ky (g1.trans0 g2) ?_⟩
  have l := r.look x
  cases hq : s.kv.lookup x with
  | none => rw [l.2 hq]; rfl
  | some y => obtain ⟨v, hv, _⟩ := l.1 y hq; rw [hv]; rfl
theorem w_dget {kx : α → Prop} (h : W Y ta Γ (dDI (d := d)) fun s => R Y tb Γ dInt fun x => ∃ y, s.kv.lookup x = some y ∧ kx y) : W Y (tDGet ta tb) Γ d kx := fun e F σ H s Q q => h e F σ H s _ fun v1 F1 H1 s1 h1 g1 ⟨a, ps, e2, ha, r⟩ => h1 e F1 σ H1 (s.grow g1) _ fun v2 F2 H2 x ⟨y, hy, ky⟩ g2 r2 => by
  cases (show v2 = .int x from r2)
  subst e2
  obtain ⟨v, hv, rv⟩ := (r.look x).1 y hy
  refine ⟨a, v, rfl, ?_, q _ F2 H2 _ ky (g1.trans0 g2) (d.mono g2.ff rv)⟩
  have := DGet.k (k := Sum.inl x) (g2.fh _ _ (g2.ff _ _ ha))
  rw [hv] at this
  exact this
theorem r_dget {kx : α → Prop} (h : R Y ta Γ (dDI (d := d)) fun s => R Y tb Γ dInt fun x => ∃ y, s.kv.lookup x = some y ∧ kx y) : R Y (tDGet ta tb) Γ d kx := fun e F σ H s Q q => h e F σ H s _ fun v1 F1 H1 s1 h1 g1 ⟨a, ps, e2, ha, r⟩ => h1 e F1 σ H1 (s.grow g1) _ fun v2 F2 H2 x ⟨y, hy, ky⟩ g2 r2 => by
  cases (show v2 = .int x from r2)
  subst e2
  obtain ⟨v, hv, rv⟩ := (r.look x).1 y hy
  refine ⟨a, v, rfl, ?_, q _ F2 H2 _ ky (g1.trans0 g2) (d.mono g2.hh0 rv)⟩
  have := DGet.k (k := Sum.inl x) (g2.hh0 _ _ ha)
  rw [hv] at this
  exact this
end
end G

section
set_option maxHeartbeats 2000000
/-! G5: lists or tuples; sorted of both; data owned within data. -/
namespace SrtO
open PySem PyProof.Rows Srt
section
variable {prog : Program} {w : World} {A : Around} {E : Value → Shared → Prop} {s : Shared}
/-- what is walked is laid into a list of its own: the heap behind it -/
theorem gather {l : Addr} {vs : List Value} {Q : List Value → Shared → Prop} {T : String} {o : Obj} {n : Nat} (hT : T = "list" ∨ T = "tuple") (ho : s.heap.get? l = some o) (hc : o.cls = .type T) (hd : o.data = .seq vs.toArray n) (hz : vs.length ≤ sizeLine)
    (hQ : Q vs { s with heap := (s.heap.push (seqObj "list" #[] 0)).update s.heap.objs.size (Obj.mapSeq (· ++ vs.toArray)) }) : wpAny (model prog w) A (collect (.ref l)) Q E s := by
  have hN : (s.heap.push (seqObj "list" #[] 0)).get? s.heap.objs.size = some (seqObj "list" #[] 0) := Heap.get?_push_size _ rfl
  have hU := get?_update_seq hN (· ++ vs.toArray)
  have back : wpAny (model prog w) A (load s.heap.objs.size >>= fun o => match o.data with | .seq xs _ => pure xs.toList | _ => unsupported "internal:collect") Q E { s with heap := (s.heap.push (seqObj "list" #[] 0)).update s.heap.objs.size (Obj.mapSeq (· ++ vs.toArray)) } := by
    refine wpAny_bind (wpAny_load hU (wpAny_pure ?_))
    have e1 : ((#[] : Array Value) ++ vs.toArray).toList = vs := by simp
    rw [e1]
    exact hQ
  unfold collect
  refine wpAny_bind (wpAny_runValue (codeAny_builtin entry_proto_collect' ?_))
  refine wpAny_bind (m := newList []) (wpAny_newList (wpAny_pure ⟨Code.quiet_builtin _ (by decide +kernel), codeAny_builtin entry_list_iadd' ?_⟩))
  have ext := wpAny_extend_seq (prog := prog) (w := w) (A := A) (s := { s with heap := s.heap.push (seqObj "list" #[] 0) }) (hsz := by simpa using hz) (R := fun r s' => r = .ok (.ret (.ref s.heap.objs.size)) ∧ s' = { s with heap := (s.heap.push (seqObj "list" #[] 0)).update s.heap.objs.size (Obj.mapSeq (· ++ vs.toArray)) }) s.heap.objs.size l (.ref s.heap.objs.size) 0 hT hN (Heap.get?_push_of_some _ ho) hc hd ⟨rfl, rfl⟩
  refine wpAny_mono ext (fun fin s' q => ?_) (fun e s' q => absurd q.1 (by simp))
  cases fin with
  | done f =>
    obtain ⟨z, rfl⟩ := q
    cases z
    exact back
  | again c' =>
    refine ⟨q.1, codeAny_mono q.2 fun r s'' z => ?_⟩
    obtain ⟨rfl, rfl⟩ := z
    exact back
/-- sorted(l), l a list or a tuple -/
theorem sorted_seq {l : Addr} {vs : List Value} {ltv : Value → Value → Bool} {Q : Value → Shared → Prop} {T : String} {o : Obj} {n : Nat} (O : Swo ltv) (hT : T = "list" ∨ T = "tuple") (ho : s.heap.get? l = some o) (hc : o.cls = .type T) (hd : o.data = .seq vs.toArray n) (hz : vs.length ≤ sizeLine)
    (hS : 2 ≤ vs.length → ∀ (h₁ : Heap) (a : Addr), h₁.get? a = some (seqObj "list" vs.toArray 0) → (∀ b o, s.heap.get? b = some o → b ≠ a ∧ h₁.get? b = some o) → SortableO prog w A.in1.in1 { s with heap := h₁ } a vs ltv)
    (h : ∀ (out : List Value) (h' : Heap) (p : Addr) (c : Nat), Srtd ltv out → Stb ltv out vs → (∀ b o, s.heap.get? b = some o → h'.get? b = some o) → s.heap.objs.size ≤ p → h'.get? p = some (seqObj "list" out.toArray c) → Q (.ref p) { s with heap := h' }) :
    wpAny (model prog w) A (call (.builtin "sorted") [.ref l]) Q E s := by
  refine Calls.call_function_entry kind_sorted plain_sorted entry_sorted (args_sorted1 _) ?_
  unfold Builtin.«sorted»
  refine wpAny_bind (m := checkCount "sorted" 1 1 _) (wpAny_pure ?_)
  refine wpAny_bind (gather hT ho hc hd hz ?_)
  refine wpAny_bind (wpAny_newList ?_ hz)
  generalize hh : (s.heap.push (seqObj "list" #[] 0)).update s.heap.objs.size (Obj.mapSeq (· ++ vs.toArray)) = h1
  have k1 : ∀ b u, s.heap.get? b = some u → h1.get? b = some u := fun b u q => by
    rw [← hh, Heap.get?_update_ne _ _ _ _ (Nat.ne_of_lt (Heap.lt_size q))]
    exact Heap.get?_push_of_some _ q
  have big : s.heap.objs.size ≤ h1.objs.size := by
    rw [← hh, Heap.size_update, size_push']
    exact Nat.le_succ _
  have hoL : (h1.push (seqObj "list" vs.toArray 0)).get? h1.objs.size = some (seqObj "list" vs.toArray 0) := Heap.get?_push_size _ rfl
  refine wpAny_bind (wpAny_holding (wpAny_call_entry slot_list_sort ⟨_, hoL, rfl⟩ entry_list_sort (list_sort_ord O hoL hz (fun h2 => hS h2 _ _ hoL fun b o q => ⟨Nat.ne_of_lt (Heap.lt_size (k1 b o q)), Heap.get?_push_of_some _ (k1 b o q)⟩) fun out hs hb => ⟨_, rfl, ?_⟩) (args_list_sort _)))
  obtain ⟨c, hc'⟩ := sortedHeap_at (vs := vs) (out := out.toArray) hoL
  refine wpAny_pure ⟨_, rfl, h out _ h1.objs.size c hs hb (fun b u e => ?_) big hc'⟩
  have hlt := Heap.lt_size (k1 b u e)
  exact (sortedHeap_old (Nat.ne_of_lt hlt) (by rw [size_push']; exact Nat.lt_succ_of_lt hlt)).trans (Heap.get?_push_of_some _ (k1 b u e))
end
end SrtO
namespace L2
open PySem PySem.Spec PyProof.Rows
/-- sorted(xs), ints, xs a list or a tuple -/
def rSortedQ (K : PySem.W.Frag) : List V → Hp → VK → Prop := fun vs H Q => ∃ (a : Addr) (ns : List Int), vs = [V.ref a] ∧ (SqL K H a (ns.map V.int) ∨ SqT K H a (ns.map V.int)) ∧
  ∀ (ns' : List Int) (p : Addr), ns'.Perm ns → ns'.Pairwise (· ≤ ·) → H p = none → Q (.ref p) (upd H p (.lst (ns'.map V.int)))
section
variable {X : Cx}
theorem cr_sortedQ : CallR X (.builtin "sorted") (rSortedQ X.K) := by
  intro pins s σ H xs us Q I r h
  obtain ⟨a, ns, rfl, hs, q⟩ := h
  have key : ∃ its T o n, Vals (ns.map V.int) its ∧ (T = "list" ∨ T = "tuple") ∧ s.heap.get? a = some o ∧ o.cls = .type T ∧ o.data = .seq its.toArray n ∧ (ns.map V.int).length ≤ sizeLine := by
    rcases hs with hs | hs
    · obtain ⟨its, rv, hl, hz⟩ := I.list hs
      obtain ⟨o, n, e, hc, _, hd⟩ := hl
      exact ⟨its, "list", o, n, rv, .inl rfl, e, hc, hd, hz⟩
    · obtain ⟨its, rv, hl, hz⟩ := I.tuple hs
      obtain ⟨o, e, hc, n, hd⟩ := hl
      exact ⟨its, "tuple", o, n, rv, .inr rfl, e, hc, hd, hz⟩
  obtain ⟨its, T, o, n, rv, hT, ho, hc, hd, hz⟩ := key
  rw [Vals.ref1 r]
  have hi := rv.ints
  refine SrtO.sorted_seq SrtO.swo_int hT ho hc hd (by rw [← rv.length]; exact hz) (fun h2 h₁ a' _ _ => SrtO.ints_sortable hi h2) fun out h' p c h1 h2 k hp hg => ?_
  obtain ⟨k1, k2, k3⟩ := SrtO.ints_out hi h1 h2
  have hlen : ((out.map SrtO.iv).map V.int).length ≤ sizeLine := by
    rw [List.length_map, k2.length_eq]
    rw [List.length_map] at hz
    exact hz
  exact ⟨.ref p, upd H p (.lst ((out.map SrtO.iv).map V.int)), I.laid (t' := s.toks) k hp ⟨hlen, out, c, vals_of_ints k1, hg⟩, rfl, q _ _ k2 k3 (I.hok.fresh hp)⟩
/-- what walks a list or a tuple -/
def iSeq (K : PySem.W.Frag) (tl : TE) : TI := fun σ H R => tl σ H fun x H1 => ∃ a, x = .ref a ∧ (((∃ xs, SqL K H1 a xs) ∧ R (Itl K a) H1) ∨ ((∃ xs, SqT K H1 a xs) ∧ R (Itt K a) H1))
theorem sortedQ_K (K : PySem.W.Frag) (h : X.K = K := by rfl) : CallR X (.builtin "sorted") (rSortedQ K) := h ▸ cr_sortedQ
/-- a new record that walks: the iterator's own object, just laid -/
theorem born {pins : List (Addr × Obj)} {σ : St} {H : Hp} {s : Shared} {R : It → Hp → Prop} {tg : Expr} {J : It} {tn : Nat → Heap → Prop} {ob : Obj} (I : Inv X pins σ H s) (T : Turn X.prog X.w X.K tg J [s.heap.objs.size] s.heap.objs.size tn) (t0 : tn 0 (s.heap.push ob)) (q : R J H) :
    PIE X pins σ tg R (.ref s.heap.objs.size) { s with heap := s.heap.push ob } :=
  ⟨_, _, _, _, H, rfl, I.kept (t' := s.toks) (fun _ _ z => Heap.get?_push_of_some _ z), T, t0, fun b hb => by
    cases List.mem_singleton.mp hb
    exact I.fpOk (Nat.le_refl _) (I.hok.fresh (Nat.le_refl _)), q⟩
theorem pi_seq {tg l : Expr} {tl : TE} (hl : PE X l tl) : PI X tg l (iSeq X.K tl) := ⟨fun pins s σ H R I h => thn (hl.run pins s σ H _ I h) fun v s1 ⟨x, H1, I1, r1, a, e, q1⟩ => by
  subst e
  cases r1
  rcases q1 with ⟨⟨xs, hq⟩, q⟩ | ⟨⟨xs, hq⟩, q⟩
  · obtain ⟨its, _, p, _⟩ := I1.list hq
    exact wpAny_pyIter_list p.isList (born I1 (turn_list a _) ⟨_, Heap.get?_push_size _ rfl, rfl, rfl⟩ q)
  · obtain ⟨its, _, p, _⟩ := I1.tuple hq
    exact wpAny_pyIter_tuple (show s1.heap.IsTuple a its.toArray from p) (born I1 (turn_tuple a _) ⟨_, Heap.get?_push_size _ rfl, rfl, rfl⟩ q)⟩
theorem pi_qK (K : PySem.W.Frag) {tg l : Expr} {tl : TE} (hl : PE X l tl) (h : X.K = K := by rfl) : PI X tg l (iSeq K tl) := h ▸ pi_seq hl
end
end L2
namespace G
open PySem L2
/-! ### a list or a tuple, its items alike -/
structure Sq (α : Type) where
  l : List α
  deriving DecidableEq
instance dSq {α : Type} [d : Dat α] : Dat (Sq α) :=
  ⟨fun C F v xs => ∃ a vs, v = .ref a ∧ (SqL C.K F a vs ∨ TpA C.K F a vs) ∧ Reps d C F vs xs.l, fun s ⟨a, vs, e, h, r⟩ => ⟨a, vs, e, h.imp s.seq (·.mono s), r.mono s⟩⟩
section
variable {C : GCtx} {Y : YC} {Γ : List Cell} {te ta tb tc : TE} {t u tt : TT} {α β γ δ : Type} {d1 : Dat α} {d : Dat α} {d2 : Dat β} {k : Ks} {t1 t2 ts : TS} {g : TG}
theorem w_sqL {kx : Sq α → Prop} (h : W Y te Γ (dList (d := d)) fun xs => kx ⟨xs⟩) : W Y te Γ (dSq (d := d)) kx := fun e F σ H s Q q => h e F σ H s Q fun v F' H' x kx g ⟨a, vs, e, h, r⟩ => q v F' H' ⟨x⟩ kx g ⟨a, vs, e, .inl h, r⟩
theorem w_sqT {kx : Sq α → Prop} (h : W Y te Γ (dTup (d := d)) fun xs => kx ⟨xs.l⟩) : W Y te Γ (dSq (d := d)) kx := fun e F σ H s Q q => h e F σ H s Q fun v F' H' x kx g ⟨a, vs, e, h, r⟩ => q v F' H' ⟨x.l⟩ kx g ⟨a, vs, e, .inr h, r⟩
theorem r_sqL {kx : Sq α → Prop} (h : R Y te Γ (dList (d := d)) fun xs => kx ⟨xs⟩) : R Y te Γ (dSq (d := d)) kx := fun e F σ H s Q q => h e F σ H s Q fun v F' H' x kx g ⟨a, vs, e, h, r⟩ => q v F' H' ⟨x⟩ kx g ⟨a, vs, e, .inl h, r⟩
theorem r_sqT {kx : Sq α → Prop} (h : R Y te Γ (dTup (d := d)) fun xs => kx ⟨xs.l⟩) : R Y te Γ (dSq (d := d)) kx := fun e F σ H s Q q => h e F σ H s Q fun v F' H' x kx g ⟨a, vs, e, h, r⟩ => q v F' H' ⟨x.l⟩ kx g ⟨a, vs, e, .inr h, r⟩
theorem w_lenQ {k : Int → Prop} (h : R Y ta Γ (dSq (d := d)) fun xs => k (xs.l.length : Int)) : W Y (tCB (fun xs H Q => ∃ p ys, xs = [.ref p] ∧ (SqL Y.K H p ys ∨ SqT Y.K H p ys) ∧ Q (.int ys.length) H) (tCons ta tNil)) Γ dInt k := fun e F σ H s Q q => h e F σ H s _ fun v F' H' x kx g ⟨a, vs, e1, h1, r⟩ => by
  subst e1
  exact ⟨a, vs, rfl, h1.imp id (·.sq), q _ F' H' _ (by rw [r.len]; exact kx) g rfl⟩
theorem w_inQ [f : @Flat α d] [DecidableEq α] {k : Bool → Prop} (h : R Y ta Γ d fun x => R Y tb Γ (dSq (d := d)) fun xs => k (decide (x ∈ xs.l))) : W Y (tOp (rIn Y.K false) ta tb) Γ dBool k := fun e F σ H s Q q => h e F σ H s _ fun v1 F1 H1 x h1 g1 r1 => h1 e F1 σ H1 (s.grow g1) _ fun v2 F2 H2 xs kx g2 ⟨a, vs, e1, hs, r⟩ => by
  subst e1
  cases f.isEnc r1
  cases r.enc
  exact ⟨a, _, rfl, hs.imp id (·.sq), f.flat x, flat_all xs.l, q _ F2 H2 _ kx (g1.trans0 g2) (by rw [inV_flat x xs.l]; rfl)⟩
theorem w_notinQ [f : @Flat α d] [DecidableEq α] {k : Bool → Prop} (h : R Y ta Γ d fun x => R Y tb Γ (dSq (d := d)) fun xs => k (!decide (x ∈ xs.l))) : W Y (tOp (rIn Y.K true) ta tb) Γ dBool k := fun e F σ H s Q q => h e F σ H s _ fun v1 F1 H1 x h1 g1 r1 => h1 e F1 σ H1 (s.grow g1) _ fun v2 F2 H2 xs kx g2 ⟨a, vs, e1, hs, r⟩ => by
  subst e1
  cases f.isEnc r1
  cases r.enc
  exact ⟨a, _, rfl, hs.imp id (·.sq), f.flat x, flat_all xs.l, q _ F2 H2 _ kx (g1.trans0 g2) (by rw [inV_flat x xs.l]; rfl)⟩
theorem o_sortedQ {kx : List Int → Prop} (h : R Y ta Γ (dSq (d := dInt)) fun xs => kx (isort xs.l)) : O Y (tCB (rSortedQ Y.K) (tCons ta tNil)) Γ (oList (d := dInt)) kx := fun e F σ H s Q q => h e F σ H s _ fun v F' H' xs kx g ⟨a, vs, e1, hs, r⟩ => by
  subst e1
  cases r.ints
  refine ⟨a, xs.l, rfl, hs.imp id (·.sq), fun ns' p pm pw hp => ?_⟩
  rw [isort_eq pm pw]
  obtain ⟨h1, h2⟩ := o_new (d := dInt) (L := []) g.base hp (Reps.ofInts (isort xs.l))
  exact q _ F' _ _ _ kx (by simpa using g.trans h1) h2
theorem o_listOfQ {k : List α → Prop} (h : W Y ta Γ (dSq (d := d)) fun xs => k xs.l) : O Y (tCB (fun xs H Q => ∃ p ys, xs = [.ref p] ∧ (SqL Y.K H p ys ∨ SqT Y.K H p ys) ∧ ∀ l, H l = none → Q (.ref l) (upd H l (.lst ys))) (tCons ta tNil)) Γ (oList (d := d)) k := fun e F σ H s Q q => h e F σ H s _ fun v F' H' xs kx g ⟨a, vs, e1, hs, r⟩ => by
  subst e1
  refine ⟨a, vs, rfl, hs.imp g.fh.seq (·.mono g.fh |>.sq), fun l hl => ?_⟩
  obtain ⟨h1, h2⟩ := o_new (L := []) g.base hl r
  exact q _ F' _ _ xs.l kx (by simpa using g.trans h1) h2
theorem w_tupOfQ {k : Tup α → Prop} (h : W Y ta Γ (dSq (d := d)) fun xs => k ⟨xs.l⟩) : W Y (tCB (fun xs H Q => ∃ p ys, xs = [.ref p] ∧ ((SqL Y.K H p ys ∧ ∀ l, H l = none → Q (.ref l) (upd H l (.tup ys))) ∨ (SqT Y.K H p ys ∧ Q (.ref p) H))) (tCons ta tNil)) Γ (dTup (d := d)) k := fun e F σ H s Q q => h e F σ H s _ fun v F' H' xs kx g ⟨a, vs, e1, hs, r⟩ => by
  subst e1
  rcases hs with hs | hs
  · refine ⟨a, vs, rfl, .inl ⟨g.fh.seq hs, fun l hl => ?_⟩⟩
    have g4 := Gr.lay (o := .tup vs) g.base hl
    exact q _ _ _ ⟨xs.l⟩ kx (g.trans0 g4) ⟨l, vs, rfl, .inl upd_same, r.mono g4.ff⟩
  · exact ⟨a, vs, rfl, .inr ⟨(hs.mono g.fh).sq, q _ F' H' ⟨xs.l⟩ kx g ⟨a, vs, rfl, hs, r⟩⟩⟩
theorem z_forQ {tl : TE} (h : W Y tl Γ (dSq (d := d)) fun xs => Body Y g ts d k (fun i => xs.l[i]?) xs.l.length Γ) : Z Y (tFor (iSeq Y.K tl) g ts) Γ k := fun e F σ H D hM s c => h e F σ H s _ fun v F1 H1 xs ⟨I, h0, hs, hd⟩ g1 ⟨a, vs, e1, hq, r⟩ => by
  subst e1
  have s1 := s.grow g1
  obtain ⟨hx1, L1, kw1, _⟩ := id s1
  have c1 := c.into hx1 kw1
  rcases hq with hq | hq
  · refine ⟨a, rfl, .inl ⟨⟨vs, g1.fh.seq hq⟩, for_list (K := Y.K) (a := a) (xs := vs) (fun i σ H => ∃ F' Γ', State Y ⟨F1, e.H0, e.M⟩ F' σ H Γ' ∧ I i Γ') ⟨F1, Γ, s1.into, h0⟩ (fun i σ H _ ⟨F', Γ', st, _⟩ => (st.ff.trans st.fh).seq hq) (fun i w σ H hw ⟨F', Γ', st, hi⟩ => ?_) fun σ H ⟨F', Γ', st, hi⟩ => ?_⟩⟩
    · obtain ⟨x, hx, rx⟩ := r.getV hw
      refine hs i x Γ' hx hi _ F' σ H w st (d.mono st.ff rx) _ fun σ2 Γ2 h2 st2 => ?_
      exact h2 ⟨F1, e.H0, e.M⟩ F' σ2 H _ hM st2 ⟨fun F3 σ3 H3 Γ3 k3 st3 => ⟨F3, Γ3, st3, k3⟩, c1.rt, c1.nx, fun F3 σ3 H3 Γ3 k3 st3 => ⟨F3, Γ3, st3, k3⟩⟩
    · rw [r.len] at hi
      exact c1.nx F' σ H Γ' (hd Γ' hi) st
  · refine ⟨a, rfl, .inr ⟨⟨vs, (hq.mono g1.fh).sq⟩, for_tup (K := Y.K) (a := a) (xs := vs) (fun i σ H => ∃ F' Γ', State Y ⟨F1, e.H0, e.M⟩ F' σ H Γ' ∧ I i Γ') ⟨F1, Γ, s1.into, h0⟩ (fun i σ H _ ⟨F', Γ', st, _⟩ => (hq.mono (st.ff.trans st.fh)).sq) (fun i w σ H hw ⟨F', Γ', st, hi⟩ => ?_) fun σ H ⟨F', Γ', st, hi⟩ => ?_⟩⟩
    · obtain ⟨x, hx, rx⟩ := r.getV hw
      refine hs i x Γ' hx hi _ F' σ H w st (d.mono st.ff rx) _ fun σ2 Γ2 h2 st2 => ?_
      exact h2 ⟨F1, e.H0, e.M⟩ F' σ2 H _ hM st2 ⟨fun F3 σ3 H3 Γ3 k3 st3 => ⟨F3, Γ3, st3, k3⟩, c1.rt, c1.nx, fun F3 σ3 H3 Γ3 k3 st3 => ⟨F3, Γ3, st3, k3⟩⟩
    · rw [r.len] at hi
      exact c1.nx F' σ H Γ' (hd Γ' hi) st
theorem o_lcQ {tl : TE} {vs : List Nat} {kx : List β → Prop} (hT : Tg g vs ∧ MoG g) (h : W Y tl Γ (dSq (d := d)) fun xs => CompB Y g tt te d d2 kx (fun i => xs.l[i]?) xs.l.length (wipeC Γ vs)) : O Y (tLc (iSeq Y.K tl) g tt te vs) Γ (oList (d := d2)) kx := fun e F σ H s Q q => h e F σ H s _ fun v F1 H1 xs ⟨I, h0, hs, hd⟩ g1 ⟨a, us, e1, hq, r⟩ => by
  subst e1
  refine ⟨a, rfl, ?_⟩
  rcases hq with hq | hq
  · refine .inl ⟨⟨us, g1.fh.seq hq⟩, fun D hD => ?_⟩
    have kw0 : Wk ⟨F1, H1, []⟩ F1 [(D, .lst [])] (upd H1 D (.lst [])) := g1.base.own hD (fun _ z => by cases z)
    refine lc_list (K := Y.K) (a := a) (xs := us) (fun i H => ∃ F' acc ys, Wk ⟨F1, H1, []⟩ F' [(D, .lst acc)] H ∧ Reps d2 Y.g F' acc ys ∧ I i ys) ⟨F1, [], [], kw0, trivial, h0⟩ (fun i H _ ⟨F', acc, ys, kw, _⟩ => (kw.ff.trans kw.fh).seq hq) (fun i w H hw p => ?_) fun H ⟨F', acc, ys, kw, ra, hi⟩ => ?_
    · obtain ⟨x, hx, rx⟩ := r.getV hw
      exact comp_turn (s.grow g1) hT.1 (hs i x · hx) (fun F' sm => d.mono sm rx) p
    · rw [r.len] at hi
      exact q _ F' H _ ys (hd ys hi) (by simpa using g1.trans kw) ⟨D, acc, rfl, rfl, ra⟩
  · refine .inr ⟨⟨us, (hq.mono g1.fh).sq⟩, fun D hD => ?_⟩
    have kw0 : Wk ⟨F1, H1, []⟩ F1 [(D, .lst [])] (upd H1 D (.lst [])) := g1.base.own hD (fun _ z => by cases z)
    refine lc_tup (K := Y.K) (a := a) (xs := us) (fun i H => ∃ F' acc ys, Wk ⟨F1, H1, []⟩ F' [(D, .lst acc)] H ∧ Reps d2 Y.g F' acc ys ∧ I i ys) ⟨F1, [], [], kw0, trivial, h0⟩ (fun i H _ ⟨F', acc, ys, kw, _⟩ => (hq.mono (kw.ff.trans kw.fh)).sq) (fun i w H hw p => ?_) fun H ⟨F', acc, ys, kw, ra, hi⟩ => ?_
    · obtain ⟨x, hx, rx⟩ := r.getV hw
      exact comp_turn (s.grow g1) hT.1 (hs i x · hx) (fun F' sm => d.mono sm rx) p
    · rw [r.len] at hi
      exact q _ F' H _ ys (hd ys hi) (by simpa using g1.trans kw) ⟨D, acc, rfl, rfl, ra⟩

/-! ### lists owned within lists, within dicts -/
/-- each item owned: their values, their footprints one behind the other -/
def OReps {α : Type} {d : Dat α} (od : OD α) (C : GCtx) (F : Hp) : List V → List α → LO → Prop
  | [], [], L => L = []
  | v :: vs, x :: xs, L => ∃ L1 L2, L = L1 ++ L2 ∧ od.orep C F v x L1 ∧ OReps od C F vs xs L2
  | _, _, _ => False
theorem OReps.mono {od : @OD α d} {F F' : Hp} (s : Same F F') : ∀ {vs : List V} {xs : List α} {L : LO}, OReps od C F vs xs L → OReps od C F' vs xs L
  | [], [], _, h => h
  | _ :: _, _ :: _, _, ⟨L1, L2, e, h1, h2⟩ => ⟨L1, L2, e, od.omono s h1, OReps.mono s h2⟩
  | [], _ :: _, _, h => h.elim
  | _ :: _, [], _, h => h.elim
theorem OReps.view {od : @OD α d} {F H : Hp} (s : Same F H) : ∀ {vs : List V} {xs : List α} {L : LO}, OReps od C F vs xs L → (∀ p ∈ L, H p.1 = some p.2) → Reps d C H vs xs
  | [], [], _, _, _ => trivial
  | _ :: _, _ :: _, _, ⟨L1, L2, e, h1, h2⟩, k => ⟨od.view h1 s fun p hp => k p (by rw [e]; exact List.mem_append_left _ hp), OReps.view s h2 fun p hp => k p (by rw [e]; exact List.mem_append_right _ hp)⟩
  | [], _ :: _, _, h, _ => h.elim
  | _ :: _, [], _, h, _ => h.elim
theorem OReps.len {od : @OD α d} {F : Hp} : ∀ {vs : List V} {xs : List α} {L : LO}, OReps od C F vs xs L → vs.length = xs.length
  | [], [], _, _ => rfl
  | _ :: _, _ :: _, _, ⟨_, _, _, _, h2⟩ => by simp [OReps.len h2]
  | [], _ :: _, _, h => h.elim
  | _ :: _, [], _, h => h.elim
theorem OReps.append {od : @OD α d} {F : Hp} {ws : List V} {ys : List α} {M : LO} : ∀ {vs : List V} {xs : List α} {L : LO}, OReps od C F vs xs L → OReps od C F ws ys M → OReps od C F (vs ++ ws) (xs ++ ys) (L ++ M)
  | [], [], _, h, g => by cases (show _ = [] from h); exact g
  | _ :: _, _ :: _, _, ⟨L1, L2, e, h1, h2⟩, g => ⟨L1, L2 ++ M, by rw [e, List.append_assoc], h1, OReps.append h2 g⟩
  | [], _ :: _, _, h, _ => h.elim
  | _ :: _, [], _, h, _ => h.elim
theorem OReps.one {od : @OD α d} {F : Hp} {v : V} {x : α} {L : LO} (h : od.orep C F v x L) : OReps od C F [v] [x] L := ⟨L, [], by simp, h, rfl⟩
theorem OReps.at {od : @OD α d} {F : Hp} : ∀ {vs : List V} {xs : List α} {L : LO} {i : Nat} {x : α}, OReps od C F vs xs L → xs[i]? = some x → ∃ v L1 Li L2, vs[i]? = some v ∧ L = L1 ++ Li ++ L2 ∧ od.orep C F v x Li ∧ ∀ x' Li', od.orep C F v x' Li' → OReps od C F vs (xs.set i x') (L1 ++ Li' ++ L2)
  | [], [], _, i, _, _, e => by cases i <;> cases e
  | v :: vs, y :: xs, L, 0, x, ⟨L1, L2, e, h1, h2⟩, hx => by
    cases (Option.some.inj hx : y = x)
    exact ⟨v, [], L1, L2, rfl, by simpa using e, h1, fun x' Li' h => ⟨Li', L2, by simp, h, h2⟩⟩
  | v :: vs, y :: xs, L, i + 1, x, ⟨L1, L2, e, h1, h2⟩, hx => by
    obtain ⟨w, M1, Mi, M2, e1, e2, h3, f⟩ := OReps.at (i := i) h2 hx
    exact ⟨w, L1 ++ M1, Mi, M2, e1, by rw [e, e2]; simp [List.append_assoc], h3, fun x' Li' h => ⟨L1, M1 ++ Li' ++ M2, by simp [List.append_assoc], h1, f x' Li' h⟩⟩
  | [], _ :: _, _, _, _, h, _ => h.elim
  | _ :: _, [], _, _, _, h, _ => h.elim
/-- a list that owns its items -/
@[reducible] def oDeep {α : Type} {d : Dat α} (od : OD α) : @OD (List α) dList where
  orep C F v xs L := ∃ a vs L', v = .ref a ∧ L = (a, .lst vs) :: L' ∧ OReps od C F vs xs L'
  omono s := fun ⟨a, vs, L', e, h, r⟩ => ⟨a, vs, L', e, h, r.mono s⟩
  view := fun ⟨a, vs, L', e, h, r⟩ s k => ⟨a, vs, e, .inl (k (a, .lst vs) (by rw [h]; exact List.mem_cons_self)), r.view s fun p hp => k p (by rw [h]; exact List.mem_cons_of_mem _ hp)⟩
instance mDeep {α : Type} [d : Dat α] {od : OD α} [i : OIm α od] : OIm (List α) (oDeep od) := ⟨fun {C F H v xs L} t ⟨a, vs, L', e, h, r⟩ => ⟨a, vs, L', e, h, by
  have go : ∀ {vs : List V} {xs : List α} {L : LO}, OReps od C H vs xs L → OReps od C F vs xs L := by
    intro vs xs L h
    induction vs generalizing xs L with
    | nil => cases xs with
      | nil => exact h
      | cons _ _ => exact h.elim
    | cons v vs ih => cases xs with
      | nil => exact h.elim
      | cons x xs => obtain ⟨L1, L2, e, h1, h2⟩ := h; exact ⟨L1, L2, e, i.oimm t h1, ih h2⟩
  exact go r⟩⟩
/-- each value owned -/
def OKReps {β : Type} {d : Dat β} (od : OD β) (C : GCtx) (F : Hp) : List (Key × V) → List (Int × β) → LO → Prop
  | [], [], L => L = []
  | p :: ps, x :: xs, L => ∃ L1 L2, L = L1 ++ L2 ∧ p.1 = Sum.inl x.1 ∧ od.orep C F p.2 x.2 L1 ∧ OKReps od C F ps xs L2
  | _, _, _ => False
theorem OKReps.mono {od : @OD α d} {F F' : Hp} (s : Same F F') : ∀ {ps : List (Key × V)} {xs : List (Int × α)} {L : LO}, OKReps od C F ps xs L → OKReps od C F' ps xs L
  | [], [], _, h => h
  | _ :: _, _ :: _, _, ⟨L1, L2, e, hk, h1, h2⟩ => ⟨L1, L2, e, hk, od.omono s h1, OKReps.mono s h2⟩
  | [], _ :: _, _, h => h.elim
  | _ :: _, [], _, h => h.elim
theorem OKReps.view {od : @OD α d} {F H : Hp} (s : Same F H) : ∀ {ps : List (Key × V)} {xs : List (Int × α)} {L : LO}, OKReps od C F ps xs L → (∀ p ∈ L, H p.1 = some p.2) → KReps d C H ps xs
  | [], [], _, _, _ => trivial
  | _ :: _, _ :: _, _, ⟨L1, L2, e, hk, h1, h2⟩, k => ⟨hk, od.view h1 s fun p hp => k p (by rw [e]; exact List.mem_append_left _ hp), OKReps.view s h2 fun p hp => k p (by rw [e]; exact List.mem_append_right _ hp)⟩
  | [], _ :: _, _, h, _ => h.elim
  | _ :: _, [], _, h, _ => h.elim
theorem OKReps.append {od : @OD α d} {F : Hp} {ws : List (Key × V)} {ys : List (Int × α)} {M : LO} : ∀ {vs : List (Key × V)} {xs : List (Int × α)} {L : LO}, OKReps od C F vs xs L → OKReps od C F ws ys M → OKReps od C F (vs ++ ws) (xs ++ ys) (L ++ M)
  | [], [], _, h, g => by cases (show _ = [] from h); exact g
  | _ :: _, _ :: _, _, ⟨L1, L2, e, hk, h1, h2⟩, g => ⟨L1, L2 ++ M, by rw [e, List.append_assoc], hk, h1, OKReps.append h2 g⟩
  | [], _ :: _, _, h, _ => h.elim
  | _ :: _, [], _, h, _ => h.elim
/-- xs at k becomes x' (the first pair with that key) -/
def setI {β : Type} : List (Int × β) → Int → β → List (Int × β)
  | [], _, _ => []
  | p :: ps, k, x => if p.1 = k then (p.1, x) :: ps else p :: setI ps k x
theorem OKReps.at {od : @OD α d} {F : Hp} : ∀ {ps : List (Key × V)} {xs : List (Int × α)} {L : LO} {i : Int} {x : α}, OKReps od C F ps xs L → xs.lookup i = some x → ∃ v L1 Li L2, valV ps (Sum.inl i) = some v ∧ L = L1 ++ Li ++ L2 ∧ od.orep C F v x Li ∧ ∀ x' Li', od.orep C F v x' Li' → OKReps od C F ps (setI xs i x') (L1 ++ Li' ++ L2)
  | [], [], _, i, _, _, e => by cases e
  | p :: vs, y :: xs, L, i, x, ⟨L1, L2, e, hk, h1, h2⟩, hx => by
    rw [lookup_cons'] at hx
    rw [valV_cons, hk]
    unfold setI
    by_cases hi : y.1 = i
    · rw [if_pos hi] at hx
      cases (Option.some.inj hx : y.2 = x)
      refine ⟨p.2, [], L1, L2, by rw [if_pos (by rw [hi])], by simpa using e, h1, fun x' Li' h => ?_⟩
      rw [if_pos hi]
      exact ⟨Li', L2, by simp, hk, h, h2⟩
    · rw [if_neg hi] at hx
      simp only [if_neg hi]
      obtain ⟨w, M1, Mi, M2, e1, e2, h3, f⟩ := OKReps.at (i := i) h2 hx
      exact ⟨w, L1 ++ M1, Mi, M2, by rw [if_neg (fun z => hi (Sum.inl.inj z)), e1], by rw [e, e2]; simp [List.append_assoc], h3, fun x' Li' h => ⟨L1, M1 ++ Li' ++ M2, by simp [List.append_assoc], hk, h1, f x' Li' h⟩⟩
  | [], _ :: _, _, _, _, h, _ => h.elim
  | _ :: _, [], _, _, _, h, _ => h.elim
/-- a dict that owns its values -/
@[reducible] def oDeepDI {β : Type} {d : Dat β} (od : OD β) : @OD (DI β) dDI where
  orep C F v x L := ∃ a ps L', v = .ref a ∧ L = (a, .dK ps) :: L' ∧ OKReps od C F ps x.kv L'
  omono s := fun ⟨a, vs, L', e, h, r⟩ => ⟨a, vs, L', e, h, r.mono s⟩
  view := fun ⟨a, ps, L', e, h, r⟩ s k => ⟨a, ps, e, k (a, .dK ps) (by rw [h]; exact List.mem_cons_self), r.view s fun p hp => k p (by rw [h]; exact List.mem_cons_of_mem _ hp)⟩
/-- d[k].append(y) -/
theorem z_appendDI {pin : Option V} {i : Nat} {x : DI (List α)} (hi : Γ[i]? = some (.own (dDI (d := dList (d := d))) (oDeepDI (oList (d := d))) pin x)) (h : R Y ta Γ dInt fun n => ∃ xs, x.kv.lookup n = some xs ∧ W Y te Γ d fun y => xs.length < PySem.sizeLine ∧ k.nx (Γ.set i (.own (dDI (d := dList (d := d))) (oDeepDI (oList (d := d))) pin ⟨setI x.kv n (xs ++ [y])⟩))) :
    Z Y (tDrop (tBM Y.K "list" rAppend (tDGet (tVar i) ta) (tCons te tNil))) Γ k := fun e F σ H D hM s c => by
  obtain ⟨v0, e1, r0⟩ := s.own hi
  refine ⟨v0, e1, h e F σ H s _ fun v1 F1 H1 n ⟨xs, hx, hw⟩ g1 r1 => ?_⟩
  cases (show v1 = .int n from r1)
  obtain ⟨v, Li, rest, e2, ⟨a, ps, L', rfl, rfl, r⟩, kw, f⟩ := (s.grow g1).mut hi
  rw [e1] at e2
  cases (Option.some.inj e2)
  have ha : H1 a = some (.dK ps) := (kw.ow (a, .dK ps) (by simp)).2.1
  obtain ⟨w, M1, Mi, M2, e3, e4, ⟨b, us, rfl, rfl, ru⟩, f2⟩ := r.at hx
  have hb : H1 b = some (.lst us) := (kw.ow (b, .lst us) (by rw [e4]; simp)).2.1
  have hg := DGet.k (k := Sum.inl n) ha
  rw [e3] at hg
  refine ⟨a, .ref b, rfl, hg, .inl ⟨rfl, us, .inl (.inl hb)⟩, hw e F1 σ H1 (s.grow g1) _ fun y F2 H2 yv ⟨hl, ky⟩ g2 ry => ?_⟩
  have hb2 : H2 b = some (.lst us) := g2.hh0 _ _ hb
  refine ⟨b, us, y, rfl, rfl, hb2, by rw [ru.len]; exact hl, ?_⟩
  have kw2 := kw.trans0 g2
  obtain ⟨w2, N1, Ni, N2, e5, e6, ⟨b2, us2, h7, h8, ru2⟩, f3⟩ := (r.mono g2.ff).at hx
  rw [e3] at e5
  cases (Option.some.inj e5)
  cases h7
  subst h8
  have hb3 : H2 b = some (.lst us2) := (kw2.ow (b, .lst us2) (by rw [e6]; simp)).2.1
  rw [hb2] at hb3
  cases (Option.some.inj hb3)
  have st2 := (s.grow g1).grow g2
  obtain ⟨v', Li', rest', e9, _, _, f9⟩ := st2.mut hi
  refine c.nx F2 σ _ _ ky ?_
  have q3 := f3 (xs ++ [yv]) [(b, .lst (us ++ [y]))] ⟨b, _, rfl, rfl, (ru.mono g2.ff).append (Reps.one ry)⟩
  obtain ⟨hx0, L0, k0, sl0⟩ := st2
  obtain ⟨o0, P1, Pi, P2, f1, f22, ⟨u0, rfl, hp0, a0, ps0, L0', h30, h31, r30⟩, f4⟩ := sl0.get hi
  rw [e1] at f1
  cases (Option.some.inj f1)
  cases h30
  subst h31 f22
  have ha0 : H2 a = some (.dK ps0) := (k0.ow (a, .dK ps0) (by simp)).2.1
  rw [g2.hh0 _ _ ha] at ha0
  cases (Option.some.inj ha0)
  obtain ⟨w4, Q1, Qi, Q2, e10, e11, ⟨b4, us4, h40, h41, ru4⟩, f5⟩ := r30.at hx
  rw [e3] at e10
  cases (Option.some.inj e10)
  cases h40
  subst h41 e11
  have hb4 : H2 b = some (.lst us4) := (k0.ow (b, .lst us4) (by simp)).2.1
  rw [hb2] at hb4
  cases (Option.some.inj hb4)
  have q5 := f5 (xs ++ [yv]) [(b, .lst (us ++ [y]))] ⟨b, _, rfl, rfl, ru4.append (Reps.one ry)⟩
  have q6 := f4 F2 (some (.ref a)) (.own (dDI (d := dList (d := d))) (oDeepDI (oList (d := d))) pin ⟨setI x.kv n (xs ++ [yv])⟩) ((a, .dK ps) :: (Q1 ++ [(b, .lst (us ++ [y]))] ++ Q2)) (Same.refl _) ⟨.ref a, rfl, hp0, a, ps, _, rfl, rfl, q5⟩
  have z : σ.set i (some (.ref a)) = σ := by
    apply List.ext_getElem?
    intro j
    by_cases hj : i = j
    · subst hj
      obtain ⟨hlt, hv⟩ := List.getElem?_eq_some_iff.mp e1
      rw [List.getElem?_set_self hlt, e1]
    · rw [List.getElem?_set_ne hj]
  rw [z] at q6
  refine ⟨hx0, _, ?_, q6⟩
  have k1 : Wk e F2 ((P1 ++ (a, .dK ps) :: Q1) ++ [(b, .lst us)] ++ (Q2 ++ P2)) H2 := by simpa [List.append_assoc] using k0
  have k2 := k1.front.put (o' := .lst (us ++ [y])) (fun _ z => by cases z)
  have k3 : Wk e F2 ((P1 ++ (a, .dK ps) :: Q1) ++ [(b, .lst (us ++ [y]))] ++ (Q2 ++ P2)) (upd H2 b (.lst (us ++ [y]))) := Wk.back (Li := [(b, .lst (us ++ [y]))]) k2
  simpa [List.append_assoc] using k3
end
end G
end

/-! G6: small helps. -/
namespace G
open PySem L2
theorem atI_of {α : Type} {xs : List α} {i : Int} {x : α} (h0 : 0 ≤ i) (h : xs[i.toNat]? = some x) : atI xs i = some x := by
  obtain ⟨j, rfl⟩ : ∃ j : Nat, i = j := ⟨i.toNat, by omega⟩
  exact atI_nat h
theorem ix_int {xs : List Int} {i : Int} {k : Int → Prop} (h0 : 0 ≤ i) (h1 : i < xs.length) (h : k (xs.getD i.toNat 0)) : ∃ x, atI xs i = some x ∧ k x := by
  have hlt : i.toNat < xs.length := by omega
  refine ⟨xs[i.toNat], atI_of h0 (by simp [hlt]), ?_⟩
  rw [List.getD_eq_getElem?_getD, List.getElem?_eq_getElem hlt] at h
  exact h
/-- any item in bounds -/
theorem ix_all {α : Type} {xs : List α} {i : Int} {k : α → Prop} (h0 : 0 ≤ i) (h1 : i < xs.length) (h : ∀ x, xs[i.toNat]? = some x → k x) : ∃ x, atI xs i = some x ∧ k x := by
  have hlt : i.toNat < xs.length := by omega
  have e : xs[i.toNat]? = some xs[i.toNat] := by simp [hlt]
  exact ⟨xs[i.toNat], atI_of h0 e, h _ e⟩
theorem small1k {n : Nat} (h : n ≤ 100000) : n < PySem.sizeLine := Nat.lt_of_le_of_lt h (by decide)
theorem nd_of {p : Prop} [Decidable p] (h : (!decide p) = true) : ¬ p := by simpa using h
theorem nd_no {p : Prop} [Decidable p] (h : (!decide p) = false) : p := by simpa using h
theorem d_of {p : Prop} [Decidable p] (h : decide p = true) : p := by simpa using h
theorem d_no {p : Prop} [Decidable p] (h : decide p = false) : ¬ p := by simpa using h
theorem nodup_snoc {α : Type} {xs : List α} {x : α} (h : xs.Nodup) (hx : x ∉ xs) : (xs ++ [x]).Nodup :=
  List.nodup_append.mpr ⟨h, by simp, fun a ha b hb e => hx (by rw [List.mem_singleton] at hb; rw [← hb, ← e]; exact ha)⟩
theorem rng_some {lo : Int} {n i : Nat} {x : Int} (h : rng lo n i = some x) : i < n ∧ x = lo + i := by
  unfold rng at h
  split at h
  · next hi => exact ⟨hi, by cases h; rfl⟩
  · cases h

/-! ### dict comprehensions: new keys, owned values -/
theorem t_not' {Y : YC} {Γ : List Cell} {t : TT} {a : Bool} (h : T Y t Γ (· = a)) : T Y (tNot t) Γ (· = !a) := t_not (t_mono h fun x e => by subst e; rfl)
section
variable {C : GCtx} {Y : YC} {Γ : List Cell} {te ta tb tc tk tv : TE} {t u tt : TT} {α β γ δ : Type} {d1 : Dat α} {d : Dat α} {d2 : Dat β} {k : Ks} {t1 t2 ts : TS} {g : TG}
theorem KReps_has {od : @OD β d2} {F : Hp} : ∀ {ps : List (Key × V)} {xs : List (Int × β)} {L : LO}, OKReps od C F ps xs L → ps.map (·.1) = xs.map fun p => (Sum.inl p.1 : Key)
  | [], [], _, _ => rfl
  | _ :: _, _ :: _, _, ⟨_, _, _, hk, _, h2⟩ => by simp [hk, KReps_has h2]
  | [], _ :: _, _, h => h.elim
  | _ :: _, [], _, h => h.elim
theorem putK_fresh {ps : List (Key × V)} {k : Key} {v : V} (h : valV ps k = none) : putK ps k v = ps ++ [(k, v)] := putK_new _ h
theorem OKReps.none {od : @OD β d2} {F : Hp} : ∀ {ps : List (Key × V)} {xs : List (Int × β)} {L : LO} {i : Int}, OKReps od C F ps xs L → xs.lookup i = none → valV ps (Sum.inl i : Key) = none
  | [], [], _, _, _, _ => rfl
  | p :: ps, x :: xs, _, i, ⟨_, _, _, hk, _, h2⟩, e => by
    rw [lookup_cons'] at e
    rw [valV_cons, hk]
    by_cases hi : x.1 = i
    · rw [if_pos hi] at e; cases e
    · rw [if_neg hi] at e
      rw [if_neg (fun z => hi (Sum.inl.inj z))]
      exact OKReps.none h2 e
  | [], _ :: _, _, _, h, _ => h.elim
  | _ :: _, [], _, _, h, _ => h.elim
theorem OKReps.len {od : @OD β d2} {F : Hp} {ps : List (Key × V)} {xs : List (Int × β)} {L : LO} (h : OKReps od C F ps xs L) : ps.length = xs.length := by
  have := congrArg List.length (KReps_has h)
  simpa using this
def DictB (Y : YC) (g : TG) (tt : TT) (tk tv : TE) {α β : Type} (d : Dat α) {d2 : Dat β} (od : OD β) (kx : DI β → Prop) (get : Nat → Option α) (n : Nat) (Γ : List Cell) : Prop :=
  ∃ I : Nat → List (Int × β) → Prop, I 0 [] ∧ (∀ i x kv, get i = some x → I i kv → A Y g Γ d x fun Γ2 => T Y tt Γ2 fun b => (b = true → W Y tk Γ2 dInt fun key => O Y tv Γ2 od fun val => kv.lookup key = none ∧ kv.length < PySem.sizeLine ∧ I (i + 1) (kv ++ [(key, val)])) ∧ (b = false → I (i + 1) kv)) ∧ ∀ kv, I n kv → kx ⟨kv⟩
theorem wipe_wipe {vs : List Nat} (σ0 : St) : wipe (wipe σ0 vs) vs = wipe σ0 vs := by
  have : ∀ (l : List Nat) (σ1 : St), (∀ j ∈ l, (σ1[j]? = none ∨ σ1[j]? = some none)) → wipe σ1 l = σ1 := by
    intro l
    induction l with
    | nil => intro _ _; rfl
    | cons j l ih =>
      intro σ1 hj
      unfold wipe
      rw [ih σ1 fun m hm => hj m (List.mem_cons_of_mem _ hm)]
      apply List.ext_getElem?
      intro m
      rw [List.getElem?_set]
      by_cases hm : j = m
      · subst hm
        rcases hj j List.mem_cons_self with z | z
        · rw [z, if_pos rfl, if_neg (Nat.not_lt.mpr (List.getElem?_eq_none_iff.mp z))]
        · rw [z, if_pos rfl, if_pos (List.getElem?_eq_some_iff.mp z).1]
      · rw [if_neg hm]
  refine this vs _ fun j hj => ?_
  cases q : (wipe σ0 vs)[j]? with
  | none => exact .inl rfl
  | some o =>
    cases o with
    | none => exact .inr rfl
    | some y => exact absurd hj (wipe_some q).2
theorem dict_turn {od : @OD β d2} {e : En} {F1 : Hp} {σ : St} {H1 : Hp} {vs : List Nat} {D : Addr} {x : α} {v : V} {I I' : List (Int × β) → Prop} (s1 : State Y e F1 σ H1 Γ) (hT : Tg g vs)
    (hs : ∀ kv, I kv → A Y g (wipeC Γ vs) d x fun Γ2 => T Y tt Γ2 fun b => (b = true → W Y tk Γ2 dInt fun key => O Y tv Γ2 od fun val => kv.lookup key = none ∧ kv.length < PySem.sizeLine ∧ I' (kv ++ [(key, val)])) ∧ (b = false → I' kv)) (rx : ∀ F', Same F1 F' → d.rep Y.g F' v x) {H : Hp}
    (h : ∃ F' ps kv L, Wk ⟨F1, H1, []⟩ F' ((D, .dK ps) :: L) H ∧ OKReps od Y.g F' ps kv L ∧ I kv) :
    g v (wipe σ vs) H fun σ2 H2 => wipe σ2 vs = wipe σ vs ∧ tt σ2 H2 fun b H3 =>
      if b = true then tk σ2 H3 fun y H4 => tv σ2 H4 fun z H5 => ∃ kvs k, y = kV k ∧ H5 D = some (.dK kvs) ∧ kvs.length < PySem.sizeLine ∧ (∃ F' ps kv L, Wk ⟨F1, H1, []⟩ F' ((D, .dK ps) :: L) (upd H5 D (.dK (putK kvs k z))) ∧ OKReps od Y.g F' ps kv L ∧ I' kv) else (∃ F' ps kv L, Wk ⟨F1, H1, []⟩ F' ((D, .dK ps) :: L) H3 ∧ OKReps od Y.g F' ps kv L ∧ I' kv) := by
  obtain ⟨F', ps, kv, L, kw, r, hi⟩ := h
  have st := (s1.growL kw).wipe vs
  have key := hs kv hi e F' _ H v st (rx F' kw.ff) (fun σ2 H2 => tt σ2 H2 fun b H3 =>
      if b = true then tk σ2 H3 fun y H4 => tv σ2 H4 fun z H5 => ∃ kvs k, y = kV k ∧ H5 D = some (.dK kvs) ∧ kvs.length < PySem.sizeLine ∧ (∃ F' ps kv L, Wk ⟨F1, H1, []⟩ F' ((D, .dK ps) :: L) (upd H5 D (.dK (putK kvs k z))) ∧ OKReps od Y.g F' ps kv L ∧ I' kv) else (∃ F' ps kv L, Wk ⟨F1, H1, []⟩ F' ((D, .dK ps) :: L) H3 ∧ OKReps od Y.g F' ps kv L ∧ I' kv)) fun σ2 Γ2 h2 st2 => by
    refine h2 e F' σ2 H st2 _ fun b F3 H3 kb g3 => ?_
    have kw3 := kw.trans0 g3
    cases b with
    | false => exact ⟨F3, ps, kv, L, kw3, r.mono g3.ff, kb.2 rfl⟩
    | true =>
      have st3 := st2.grow g3
      refine kb.1 rfl e F3 σ2 H3 st3 _ fun y F4 H4 yv hy g4 ry => ?_
      have st4 := st3.grow g4
      refine hy e F4 σ2 H4 st4 _ fun z F5 H5 Lz zv ⟨hn, hl, hI⟩ g5 rz => ?_
      cases (show y = .int yv from ry)
      have kw4 := kw3.trans0 g4
      have kw5 := kw4.trans g5
      have r5 := r.mono ((g3.ff.trans g4.ff).trans g5.ff)
      have hD : H5 D = some (.dK ps) := (kw5.ow (D, .dK ps) (by simp)).2.1
      refine ⟨ps, Sum.inl yv, rfl, hD, by rw [r5.len]; exact hl, F5, ps ++ [(Sum.inl yv, z)], kv ++ [(yv, zv)], L ++ Lz, ?_, r5.append ⟨Lz, [], by simp, rfl, rz, rfl⟩, hI⟩
      rw [putK_fresh (r5.none hn)]
      have k6 : Wk ⟨F1, H1, []⟩ F5 (Lz ++ [(D, .dK ps)] ++ L) H5 := by simpa [List.append_assoc] using kw5
      have k7 : Wk ⟨F1, H1, []⟩ F5 ((D, .dK (ps ++ [(Sum.inl yv, z)])) :: (Lz ++ L)) _ := k6.front.put (o' := .dK (ps ++ [(Sum.inl yv, z)])) (fun _ z => by cases z)
      refine k7.sub (fun p hp => ?_) ?_
      · simp only [List.mem_cons, List.mem_append] at hp ⊢
        rcases hp with h | h | h <;> simp [h]
      · exact (List.Perm.nodup_iff (List.Perm.map _ (List.Perm.cons _ List.perm_append_comm))).mp k7.nd
  have key2 := hT v _ H _ key
  rw [wipe_wipe] at key2
  exact key2
theorem dc_list {K : PySem.W.Frag} {a : Addr} {xs : List V} {g : TG} {tt : TT} {tk tv : TE} {vs : List Nat} {σ : St} {H1 : Hp} {D : Addr} {Qd : Hp → Prop} (Pv : Nat → Hp → Prop) (h0 : Pv 0 (upd H1 D (.dK []))) (hl : ∀ i H, i ≤ xs.length → Pv i H → SqL K H a xs)
    (hs : ∀ i x H, xs[i]? = some x → Pv i H → g x (wipe σ vs) H fun σ2 H2 => wipe σ2 vs = wipe σ vs ∧ tt σ2 H2 fun b H3 =>
      if b = true then tk σ2 H3 fun y H4 => tv σ2 H4 fun z H5 => ∃ kvs k, y = kV k ∧ H5 D = some (.dK kvs) ∧ kvs.length < PySem.sizeLine ∧ Pv (i + 1) (upd H5 D (.dK (putK kvs k z))) else Pv (i + 1) H3) (hd : ∀ H, Pv xs.length H → Qd H) :
    ∃ W : Nat → Nat → Hp → Prop, (∃ m, W 0 m (upd H1 D (.dK []))) ∧ ∀ i m H, W i m H →
      ((Itl K a).stop i H ∧ Qd H) ∨ ((Itl K a).go i H ∧ ∃ Nx : Hp → Prop, (∀ H', Nx H' → ∃ m', m' < m ∧ W (i + 1) m' H') ∧ ∀ x H', (Itl K a).yld i H x H' → g x (wipe σ vs) H' fun σ2 H2 => wipe σ2 vs = wipe σ vs ∧ tt σ2 H2 fun b H3 =>
        if b = true then tk σ2 H3 fun y H4 => tv σ2 H4 fun z H5 => ∃ kvs k, y = kV k ∧ H5 D = some (.dK kvs) ∧ kvs.length < PySem.sizeLine ∧ Nx (upd H5 D (.dK (putK kvs k z))) else Nx H3) := by
  refine ⟨fun i m H => m = xs.length - i ∧ i ≤ xs.length ∧ Pv i H, ⟨xs.length, by simp, Nat.zero_le _, h0⟩, fun i m H ⟨em, hi, p⟩ => ?_⟩
  have q := hl i H hi p
  by_cases hlt : i < xs.length
  · refine .inr ⟨⟨xs, xs[i], q, by simp [hlt]⟩, Pv (i + 1), fun H' p' => ⟨xs.length - (i + 1), by omega, rfl, hlt, p'⟩, fun x H' ⟨eh, y⟩ => ?_⟩
    rw [eh]
    exact hs i x H (y xs q) p
  · have el : i = xs.length := by omega
    rw [el] at p
    exact .inl ⟨⟨xs, q, by omega⟩, hd H p⟩
theorem o_dcQ {od : @OD β d2} {tl : TE} {vs : List Nat} {kx : DI β → Prop} (hT : Tg g vs ∧ MoG g) (h : W Y tl Γ (dSq (d := d)) fun xs => DictB Y g tt tk tv d od kx (fun i => xs.l[i]?) xs.l.length (wipeC Γ vs)) : O Y (tDc (iSeq Y.K tl) g tt tk tv vs) Γ (oDeepDI od) kx := fun e F σ H s Q q => h e F σ H s _ fun v F1 H1 xs ⟨I, h0, hs, hd⟩ g1 ⟨a, us, e1, hq, r⟩ => by
  subst e1
  have fin : ∀ {D : Addr} {H : Hp}, H1 D = none → (∃ F' ps kv L, Wk ⟨F1, H1, []⟩ F' ((D, .dK ps) :: L) H ∧ OKReps od Y.g F' ps kv L ∧ I us.length kv) → Q (.ref D) H := fun {D H} hD ⟨F', ps, kv, L, kw, ra, hi⟩ => by
    rw [r.len] at hi
    exact q _ F' H _ ⟨kv⟩ (hd kv hi) (by simpa using g1.trans kw) ⟨D, ps, L, rfl, rfl, ra⟩
  have kw0 : ∀ {D : Addr}, H1 D = none → Wk ⟨F1, H1, []⟩ F1 [(D, .dK [])] (upd H1 D (.dK [])) := fun hD => g1.base.own hD (fun _ z => by cases z)
  refine ⟨a, rfl, ?_⟩
  rcases hq with hq | hq
  · refine .inl ⟨⟨us, g1.fh.seq hq⟩, fun D hD => dc_list (K := Y.K) (a := a) (xs := us) (fun i H => ∃ F' ps kv L, Wk ⟨F1, H1, []⟩ F' ((D, .dK ps) :: L) H ∧ OKReps od Y.g F' ps kv L ∧ I i kv) ⟨F1, [], [], [], kw0 hD, rfl, h0⟩ (fun i H _ ⟨F', ps, kv, L, kw, _⟩ => (kw.ff.trans kw.fh).seq hq) (fun i w H hw p => ?_) fun H p => fin hD p⟩
    obtain ⟨x, hx, rx⟩ := r.getV hw
    exact dict_turn (s.grow g1) hT.1 (hs i x · hx) (fun F' sm => d.mono sm rx) p
  · refine .inr ⟨⟨us, (hq.mono g1.fh).sq⟩, fun D hD => dc_tup (K := Y.K) (a := a) (xs := us) (fun i H => ∃ F' ps kv L, Wk ⟨F1, H1, []⟩ F' ((D, .dK ps) :: L) H ∧ OKReps od Y.g F' ps kv L ∧ I i kv) ⟨F1, [], [], [], kw0 hD, rfl, h0⟩ (fun i H _ ⟨F', ps, kv, L, kw, _⟩ => (hq.mono (kw.ff.trans kw.fh)).sq) (fun i w H hw p => ?_) fun H p => fin hD p⟩
    obtain ⟨x, hx, rx⟩ := r.getV hw
    exact dict_turn (s.grow g1) hT.1 (hs i x · hx) (fun F' sm => d.mono sm rx) p

/-! ### lists that own lists -/
theorem atI_split {α : Type} {xs : List α} {i : Int} {x : α} (h : atI xs i = some x) : ∃ j, ixN xs.length i = some j ∧ xs[j]? = some x := by
  unfold atI at h
  cases q : ixN xs.length i with
  | none => rw [q] at h; cases h
  | some j => rw [q] at h; exact ⟨j, rfl, h⟩
/-- xs[i].append(y), the items owned -/
theorem z_appendIx {pin : Option V} {i : Nat} {xs : List (List α)} (hi : Γ[i]? = some (.own (dList (d := dList (d := d))) (oDeep (oList (d := d))) pin xs)) (h : R Y ta Γ dInt fun n => ∃ j x, ixN xs.length n = some j ∧ xs[j]? = some x ∧ W Y te Γ d fun y => x.length < PySem.sizeLine ∧ k.nx (Γ.set i (.own (dList (d := dList (d := d))) (oDeep (oList (d := d))) pin (xs.set j (x ++ [y]))))) :
    Z Y (tDrop (tBM Y.K "list" rAppend (tOp (rIxL Y.K) (tVar i) ta) (tCons te tNil))) Γ k := fun e F σ H D hM s c => by
  obtain ⟨v0, e1, r0⟩ := s.own hi
  refine ⟨v0, e1, h e F σ H s _ fun v1 F1 H1 n ⟨j, x, hj, hx, hw⟩ g1 r1 => ?_⟩
  cases (show v1 = .int n from r1)
  have st1 := s.grow g1
  obtain ⟨v, Li, rest, e2, ⟨a, vs, L', rfl, rfl, r⟩, kw, f⟩ := st1.mut hi
  rw [e1] at e2
  cases (Option.some.inj e2)
  have ha : H1 a = some (.lst vs) := (kw.ow (a, .lst vs) (by simp)).2.1
  obtain ⟨w, M1, Mi, M2, e3, e4, ⟨b, us, rfl, rfl, ru⟩, f2⟩ := r.at hx
  have hb : H1 b = some (.lst us) := (kw.ow (b, .lst us) (by rw [e4]; simp)).2.1
  refine ⟨a, vs, n, .ref b, rfl, rfl, .inl (.inl ha), by unfold atI; rw [r.len, hj]; exact e3, .inl ⟨rfl, us, .inl (.inl hb)⟩, hw e F1 σ H1 st1 _ fun y F2 H2 yv ⟨hl, ky⟩ g2 ry => ?_⟩
  have hb2 : H2 b = some (.lst us) := g2.hh0 _ _ hb
  refine ⟨b, us, y, rfl, rfl, hb2, by rw [ru.len]; exact hl, ?_⟩
  obtain ⟨v', Li', rest', e9, ⟨a', vs', L2, h30, h31, r30⟩, k9, f9⟩ := (st1.grow g2).mut hi
  rw [e1] at e9
  cases (Option.some.inj e9)
  cases h30
  subst h31
  have ha0 : H2 a = some (.lst vs') := (k9.ow (a, .lst vs') (by simp)).2.1
  rw [g2.hh0 _ _ ha] at ha0
  cases (Option.some.inj ha0)
  obtain ⟨w4, Q1, Qi, Q2, e10, e11, ⟨b4, us4, h40, h41, ru4⟩, f5⟩ := r30.at hx
  rw [e3] at e10
  cases (Option.some.inj e10)
  cases h40
  subst h41 e11
  have hb4 : H2 b = some (.lst us4) := (k9.ow (b, .lst us4) (by simp)).2.1
  rw [hb2] at hb4
  cases (Option.some.inj hb4)
  have q5 := f5 (x ++ [yv]) [(b, .lst (us ++ [y]))] ⟨b, _, rfl, rfl, ru4.append (Reps.one ry)⟩
  have k1 : Wk e F2 (((a, .lst vs) :: Q1) ++ [(b, .lst us)] ++ (Q2 ++ rest')) H2 := by simpa [List.append_assoc] using k9
  have k2 := k1.front.put (o' := .lst (us ++ [y])) (fun _ z => by cases z)
  have k3 : Wk e F2 (((a, .lst vs) :: Q1) ++ [(b, .lst (us ++ [y]))] ++ (Q2 ++ rest')) (upd H2 b (.lst (us ++ [y]))) := Wk.back (Li := [(b, .lst (us ++ [y]))]) k2
  exact c.nx F2 σ _ _ ky (f9 F2 _ ((a, .lst vs) :: (Q1 ++ [(b, .lst (us ++ [y]))] ++ Q2)) _ (Same.refl _) (by simpa [List.append_assoc] using k3) ⟨a, vs, _, rfl, rfl, q5⟩)
/-- xs.append(y), y new and owned -/
theorem z_appendO {od : @OD α d} {pin : Option V} {i : Nat} {xs : List α} (hi : Γ[i]? = some (.own (dList (d := d)) (oDeep od) pin xs)) (h : O Y te Γ od fun y => xs.length < PySem.sizeLine ∧ k.nx (Γ.set i (.own (dList (d := d)) (oDeep od) pin (xs ++ [y])))) :
    Z Y (tDrop (tBM Y.K "list" rAppend (tVar i) (tCons te tNil))) Γ k := fun e F σ H D hM s c => by
  obtain ⟨v0, _, _, e1, ⟨a0, vs0, L0, rfl, rfl, _⟩, kw0, _⟩ := s.mut hi
  have ha0 : H a0 = some (.lst vs0) := (kw0.ow (a0, .lst vs0) (by simp)).2.1
  refine ⟨.ref a0, e1, .inl ⟨rfl, vs0, .inl (.inl ha0)⟩, h e F σ H s _ fun w F' H' L' y ⟨hl, ky⟩ g rw' => ?_⟩
  obtain ⟨hx, L, k0, sl0⟩ := id s
  obtain ⟨o0, P1, Pi, P2, f1, f2, ⟨u0, rfl, hp0, a, vs, Lx, rfl, rfl, r⟩, f4⟩ := sl0.get hi
  rw [e1] at f1
  cases (Option.some.inj f1)
  subst f2
  have k1 := k0.trans g
  have ha : H' a0 = some (.lst vs) := (k1.ow (a0, .lst vs) (by simp)).2.1
  refine ⟨a0, vs, w, rfl, rfl, ha, by rw [r.len]; exact hl, ?_⟩
  have q6 := f4 F' (some (.ref a0)) (.own (dList (d := d)) (oDeep od) pin (xs ++ [y])) ((a0, .lst (vs ++ [w])) :: (Lx ++ L')) g.ff ⟨.ref a0, rfl, hp0, a0, _, _, rfl, rfl, (r.mono g.ff).append (OReps.one rw')⟩
  have z : σ.set i (some (.ref a0)) = σ := by
    apply List.ext_getElem?
    intro j
    by_cases hj : i = j
    · subst hj
      obtain ⟨hlt, hv⟩ := List.getElem?_eq_some_iff.mp e1
      rw [List.getElem?_set_self hlt, e1]
    · rw [List.getElem?_set_ne hj]
  rw [z] at q6
  refine c.nx F' σ _ _ ky ⟨hx, _, ?_, q6⟩
  have k2 : Wk e F' ((L' ++ P1) ++ [(a0, .lst vs)] ++ (Lx ++ P2)) H' := by simpa [List.append_assoc] using k1
  have k3 := k2.front.put (o' := .lst (vs ++ [w])) (fun _ z => by cases z)
  refine k3.sub (fun p hp => ?_) ?_
  · simp only [List.mem_cons, List.mem_append] at hp ⊢
    rcases hp with (h | h | h | h) | h <;> simp [h]
  · have n3 := k3.nd
    refine (List.Perm.nodup_iff (List.Perm.map _ ?_)).mp n3
    simp only [List.append_assoc, List.singleton_append, List.cons_append]
    refine List.Perm.trans ?_ List.perm_middle.symm
    refine List.Perm.cons _ ?_
    refine List.Perm.trans (List.perm_append_comm (l₁ := L')) ?_
    simp only [List.append_assoc]
    refine List.Perm.append_left _ (List.Perm.append_left _ ?_)
    exact List.perm_append_comm
theorem o_nilDeep {od : @OD α d} {kx : List α → Prop} (hk : kx []) : O Y (tLst tNil) Γ (oDeep od) kx := fun e F σ H s Q q => ⟨Nat.zero_le _, fun p hp =>
  q _ F _ _ [] hk (s.base.own hp (fun _ z => by cases z)) ⟨p, [], [], rfl, rfl, rfl⟩⟩
end
end G

/-! G7: what is owned, read as if it were frozen; comprehensions of owned items; the script. -/
namespace G
open PySem L2
section
variable {C : GCtx} {Y : YC} {Γ : List Cell} {te ta tb tc tk tv : TE} {t u tt : TT} {α β γ δ : Type} {d1 : Dat α} {d : Dat α} {d2 : Dat β} {k : Ks} {t1 t2 ts : TS} {g : TG}
theorem State.frzM {e : En} {F : Hp} {σ : St} {H : Hp} {od : @OD α d} {x : α} {i : Nat} {pin : Option V} (s : State Y e F σ H Γ) (h : Γ[i]? = some (.own d od pin x)) : ∃ e' F', Same F F' ∧ State (calm Y.g) e' F' σ H (Γ.set i (.val d x)) := by
  obtain ⟨_, L, k, sl⟩ := s
  obtain ⟨o, L1, Li, L2, e1, e2, ⟨v, rfl, hp, r⟩, f⟩ := sl.get h
  subst e2
  have kf := k.front
  have kb : Wk ⟨F, fun _ => none, []⟩ F (Li ++ (L1 ++ L2)) H := ⟨Same.refl _, fun _ _ _ z => (nomatch z), fun _ z => absurd rfl z, kf.fh, fun _ z _ => absurd rfl z, kf.tp, fun p hp => ⟨(kf.ow p hp).1, (kf.ow p hp).2.1, .inl rfl⟩, kf.nd⟩
  have ff : ∀ p ∈ Li, F p.1 = none := fun p hp => (kf.ow p (List.mem_append_left _ hp)).1
  have nd : (Li.map Prod.fst).Nodup := by
    have := kf.nd
    rw [List.map_append] at this
    exact (List.nodup_append.mp this).1
  have sm := same_plus ff nd
  have q := f (plus F Li) (some v) (.val d x) [] sm ⟨rfl, v, rfl, od.view r sm (plus_get ff nd)⟩
  have z : σ.set i (some v) = σ := by
    apply List.ext_getElem?
    intro j
    by_cases hj : i = j
    · subst hj
      obtain ⟨hlt, hv⟩ := List.getElem?_eq_some_iff.mp e1
      rw [List.getElem?_set_self hlt, e1]
    · rw [List.getElem?_set_ne hj]
  rw [z, List.append_nil] at q
  exact ⟨_, plus F Li, sm, fun _ _ _ _ _ _ z => z.elim, L1 ++ L2, kb.freeze fun p _ z => (nomatch z), q⟩
theorem o_borrow {od0 : @OD α d} {x : α} {pin : Option V} {od : @OD β d2} [m : @OIm β d2 od] {kx : β → Prop} (i : Nat) (hi : Γ[i]? = some (.own d od0 pin x)) (h : O (calm Y.g) te (Γ.set i (.val d x)) od kx) : O Y te Γ od kx := fun e F σ H s Q q => by
  obtain ⟨e', F1, sm, s1⟩ := s.frzM hi
  refine h e' F1 σ H s1 Q fun v F' H' L' y ky g r => ?_
  have g3 := fresh_gr s.base g
  exact q v _ H' L' y ky g3 (m.oimm (fun a xs h => g3.tp a xs (g.fh _ _ h)) r)
theorem w_borrow {od0 : @OD α d} {x : α} {pin : Option V} [m : @Imm β d2] {kx : β → Prop} (i : Nat) (hi : Γ[i]? = some (.own d od0 pin x)) (h : W (calm Y.g) te (Γ.set i (.val d x)) d2 kx) : W Y te Γ d2 kx := fun e F σ H s Q q => by
  obtain ⟨e', F1, sm, s1⟩ := s.frzM hi
  refine h e' F1 σ H s1 Q fun v F' H' y ky g r => ?_
  have g3 := fresh_gr s.base g
  exact q v _ H' y ky g3 (m.imm (fun a xs h => g3.tp a xs (g.fh _ _ h)) r)
/-- comprehensions whose items are new and owned -/
def CompO (Y : YC) (g : TG) (tt : TT) (te : TE) {α β : Type} (d : Dat α) {d2 : Dat β} (od : OD β) (kx : List β → Prop) (get : Nat → Option α) (n : Nat) (Γ : List Cell) : Prop :=
  ∃ I : Nat → List β → Prop, I 0 [] ∧ (∀ i x ys, get i = some x → I i ys → A Y g Γ d x fun Γ2 => T Y tt Γ2 fun b => (b = true → O Y te Γ2 od fun y => ys.length < PySem.sizeLine ∧ I (i + 1) (ys ++ [y])) ∧ (b = false → I (i + 1) ys)) ∧ ∀ ys, I n ys → kx ys
theorem compO_turn {od : @OD β d2} {e : En} {F1 : Hp} {σ : St} {H1 : Hp} {vs : List Nat} {D : Addr} {x : α} {v : V} {I I' : List β → Prop} (s1 : State Y e F1 σ H1 Γ) (hT : Tg g vs)
    (hs : ∀ ys, I ys → A Y g (wipeC Γ vs) d x fun Γ2 => T Y tt Γ2 fun b => (b = true → O Y te Γ2 od fun y => ys.length < PySem.sizeLine ∧ I' (ys ++ [y])) ∧ (b = false → I' ys)) (rx : ∀ F', Same F1 F' → d.rep Y.g F' v x) {H : Hp}
    (h : ∃ F' acc ys L, Wk ⟨F1, H1, []⟩ F' ((D, .lst acc) :: L) H ∧ OReps od Y.g F' acc ys L ∧ I ys) :
    g v (wipe σ vs) H fun σ2 H2 => wipe σ2 vs = wipe σ vs ∧ tt σ2 H2 fun b H3 =>
      if b = true then te σ2 H3 fun y H4 => ∃ acc, H4 D = some (.lst acc) ∧ acc.length < PySem.sizeLine ∧ (∃ F' acc' ys L, Wk ⟨F1, H1, []⟩ F' ((D, .lst acc') :: L) (upd H4 D (.lst (acc ++ [y]))) ∧ OReps od Y.g F' acc' ys L ∧ I' ys) else (∃ F' acc ys L, Wk ⟨F1, H1, []⟩ F' ((D, .lst acc) :: L) H3 ∧ OReps od Y.g F' acc ys L ∧ I' ys) := by
  obtain ⟨F', acc, ys, L, kw, r, hi⟩ := h
  have st := (s1.growL kw).wipe vs
  have key := hs ys hi e F' _ H v st (rx F' kw.ff) (fun σ2 H2 => tt σ2 H2 fun b H3 =>
      if b = true then te σ2 H3 fun y H4 => ∃ acc, H4 D = some (.lst acc) ∧ acc.length < PySem.sizeLine ∧ (∃ F' acc' ys L, Wk ⟨F1, H1, []⟩ F' ((D, .lst acc') :: L) (upd H4 D (.lst (acc ++ [y]))) ∧ OReps od Y.g F' acc' ys L ∧ I' ys) else (∃ F' acc ys L, Wk ⟨F1, H1, []⟩ F' ((D, .lst acc) :: L) H3 ∧ OReps od Y.g F' acc ys L ∧ I' ys)) fun σ2 Γ2 h2 st2 => by
    refine h2 e F' σ2 H st2 _ fun b F3 H3 kb g3 => ?_
    have kw3 := kw.trans0 g3
    cases b with
    | false => exact ⟨F3, acc, ys, L, kw3, r.mono g3.ff, kb.2 rfl⟩
    | true =>
      refine kb.1 rfl e F3 σ2 H3 (st2.grow g3) _ fun y F4 H4 Ly yv ⟨hl, ky⟩ g4 ry => ?_
      have kw4 := kw3.trans g4
      have r4 := r.mono (g3.ff.trans g4.ff)
      have hD : H4 D = some (.lst acc) := (kw4.ow (D, .lst acc) (by simp)).2.1
      refine ⟨acc, hD, by rw [r.len]; exact hl, F4, acc ++ [y], ys ++ [yv], L ++ Ly, ?_, r4.append (OReps.one ry), ky⟩
      have k6 : Wk ⟨F1, H1, []⟩ F4 (Ly ++ [(D, .lst acc)] ++ L) H4 := by simpa [List.append_assoc] using kw4
      have k7 : Wk ⟨F1, H1, []⟩ F4 ((D, .lst (acc ++ [y])) :: (Ly ++ L)) _ := k6.front.put (o' := .lst (acc ++ [y])) (fun _ z => by cases z)
      refine k7.sub (fun p hp => ?_) ?_
      · simp only [List.mem_cons, List.mem_append] at hp ⊢
        rcases hp with h | h | h <;> simp [h]
      · exact (List.Perm.nodup_iff (List.Perm.map _ (List.Perm.cons _ List.perm_append_comm))).mp k7.nd
  have key2 := hT v _ H _ key
  rw [wipe_wipe] at key2
  exact key2
theorem o_lcO {od : @OD β d2} {tl : TE} {vs : List Nat} {kx : List β → Prop} (hT : Tg g vs ∧ MoG g) (h : W Y tl Γ (dList (d := d)) fun xs => CompO Y g tt te d od kx (fun i => xs[i]?) xs.length (wipeC Γ vs)) : O Y (tLc (iList Y.K tl) g tt te vs) Γ (oDeep od) kx := fun e F σ H s Q q => h e F σ H s _ fun v F1 H1 xs ⟨I, h0, hs, hd⟩ g1 ⟨a, us, e1, hq, r⟩ => by
  subst e1
  refine ⟨a, rfl, ⟨us, g1.fh.seq hq⟩, fun D hD => ?_⟩
  have kw0 : Wk ⟨F1, H1, []⟩ F1 [(D, .lst [])] (upd H1 D (.lst [])) := g1.base.own hD (fun _ z => by cases z)
  refine lc_list (K := Y.K) (a := a) (xs := us) (fun i H => ∃ F' acc ys L, Wk ⟨F1, H1, []⟩ F' ((D, .lst acc) :: L) H ∧ OReps od Y.g F' acc ys L ∧ I i ys) ⟨F1, [], [], [], kw0, rfl, h0⟩ (fun i H _ ⟨F', acc, ys, L, kw, _⟩ => (kw.ff.trans kw.fh).seq hq) (fun i w H hw p => ?_) fun H ⟨F', acc, ys, L, kw, ra, hi⟩ => ?_
  · obtain ⟨x, hx, rx⟩ := r.getV hw
    exact compO_turn (s.grow g1) hT.1 (hs i x · hx) (fun F' sm => d.mono sm rx) p
  · rw [r.len] at hi
    exact q _ F' H _ ys (hd ys hi) (by simpa using g1.trans kw) ⟨D, acc, L, rfl, rfl, ra⟩
/-- len of a list just made -/
theorem w_lenO {k : Int → Prop} {od : @OD (List α) (dList (d := d))} (h : O Y ta Γ od fun xs => k (xs.length : Int)) : W Y (tCB (fun xs H Q => ∃ p ys, xs = [.ref p] ∧ (SqL Y.K H p ys ∨ SqT Y.K H p ys) ∧ Q (.int ys.length) H) (tCons ta tNil)) Γ dInt k := w_len (r_of_w (w_of_o h))
/-- the script, as the law takes it -/
theorem Fn.script {K : PySem.W.Frag} {P : Program} {w : World} {H : Hp} {a : Addr} {ns : List Int} (hS : SqL K H a (ns.map V.int)) : Fn ⟨P, w, K⟩ [.val (dSq (d := dInt)) ⟨ns⟩] (fun c => c = cv true) [.ref a] H (fun v _ => v = .bl true) :=
  ⟨H, ⟨Same.refl _, fun _ _ _ h => h, fun _ h => h, Same.refl _, fun _ _ h => h, fun _ _ h => h, fun _ h => (nomatch h), List.nodup_nil⟩, Slots.cons (L := []) ⟨rfl, .ref a, rfl, a, _, rfl, .inl hS, Reps.ofInts ns⟩ .nil, fun v F' H' c L e _ ok => by
    subst e
    obtain ⟨_, v', e', r⟩ := ok
    cases (Option.some.inj e')
    exact r⟩
end
end G

/-! G8: stores into dicts, slices, items that change their list, lists picked out of owned lists. -/
namespace G
open PySem L2
section
variable {C : GCtx} {Y : YC} {Γ : List Cell} {te ta tb tc tk tv : TE} {t u tt : TT} {α β γ δ : Type} {d1 : Dat α} {d : Dat α} {d2 : Dat β} {k : Ks} {t1 t2 ts : TS} {g : TG}
/-! d[k] = v -/
theorem KReps.map_put {F : Hp} {v : V} {x : α} {n : Int} (hv : d.rep C F v x) : ∀ {ps : List (Key × V)} {xs : List (Int × α)}, KReps d C F ps xs → KReps d C F (ps.map fun kv => if kv.1 = Sum.inl n then (kv.1, v) else kv) (xs.map fun p => if p.1 = n then (n, x) else p)
  | [], [], _ => trivial
  | p :: ps, y :: ys, h => by
    rw [List.map_cons, List.map_cons]
    by_cases hn : y.1 = n
    · rw [if_pos hn, if_pos (by rw [h.1, hn])]
      exact ⟨by show p.1 = Sum.inl n; rw [h.1, hn], hv, KReps.map_put hv h.2.2⟩
    · rw [if_neg hn, if_neg (by rw [h.1]; exact fun z => hn (Sum.inl.inj z))]
      exact ⟨h.1, h.2.1, KReps.map_put hv h.2.2⟩
  | [], _ :: _, h => h.elim
  | _ :: _, [], h => h.elim
theorem KReps.snoc {F : Hp} {v : V} {x : α} {n : Int} (hv : d.rep C F v x) : ∀ {ps : List (Key × V)} {xs : List (Int × α)}, KReps d C F ps xs → KReps d C F (ps ++ [(Sum.inl n, v)]) (xs ++ [(n, x)])
  | [], [], _ => ⟨rfl, hv, trivial⟩
  | _ :: _, _ :: _, h => ⟨h.1, h.2.1, KReps.snoc hv h.2.2⟩
  | [], _ :: _, h => h.elim
  | _ :: _, [], h => h.elim
theorem KReps.put {F : Hp} {ps : List (Key × V)} {xs : List (Int × α)} {v : V} {x : α} {n : Int} (h : KReps d C F ps xs) (hv : d.rep C F v x) : KReps d C F (putK ps (Sum.inl n) v) (putI xs n x) := by
  unfold putK putI
  have l := h.look n
  rw [valV_any]
  cases q : xs.lookup n with
  | none =>
    rw [l.2 q, if_neg (fun z => (nomatch z)), if_neg (fun z => (nomatch z))]
    exact h.snoc hv
  | some y =>
    obtain ⟨w, hw, _⟩ := l.1 y q
    rw [hw]
    exact h.map_put hv
theorem lookup_map_put {β : Type} (n j : Int) (x : β) : ∀ kv : List (Int × β), (kv.map fun p => if p.1 = n then (n, x) else p).lookup j = if j = n then (kv.lookup n).map (fun _ => x) else kv.lookup j
  | [] => by simp
  | p :: kv => by
    rw [List.map_cons, lookup_cons', lookup_map_put n j x kv, lookup_cons', lookup_cons']
    by_cases hn : p.1 = n
    · rw [if_pos hn]
      by_cases hj : j = n
      · rw [if_pos hj.symm, if_pos hj, if_pos hn]; rfl
      · rw [if_neg (fun z => hj z.symm), if_neg hj, if_neg hj, if_neg (fun z => hj (z.symm.trans hn))]
    · rw [if_neg hn]
      by_cases hj : j = n
      · rw [if_neg (fun z => hn (z.trans hj)), if_pos hj, if_pos hj, if_neg hn]
      · rw [if_neg hj, if_neg hj]
theorem lookup_putI {β : Type} (kv : List (Int × β)) (n j : Int) (x : β) : (putI kv n x).lookup j = if j = n then some x else kv.lookup j := by
  unfold putI
  cases q : kv.lookup n with
  | some y =>
    show (kv.map fun p => if p.1 = n then (n, x) else p).lookup j = _
    rw [lookup_map_put, q]; rfl
  | none =>
    rw [if_neg (fun z => (nomatch z))]
    have : ∀ kv : List (Int × β), kv.lookup n = none → (kv ++ [(n, x)]).lookup j = if j = n then some x else kv.lookup j := by
      intro kv
      induction kv with
      | nil =>
        intro _
        rw [List.nil_append, lookup_cons']
        by_cases hj : j = n
        · rw [if_pos hj.symm, if_pos hj]
        · rw [if_neg (fun z => hj z.symm), if_neg hj]
      | cons p kv ih =>
        intro hq
        rw [lookup_cons'] at hq
        by_cases hp : p.1 = n
        · rw [if_pos hp] at hq; cases hq
        · rw [if_neg hp] at hq
          rw [List.cons_append, lookup_cons', ih hq, lookup_cons']
          by_cases hj : j = n
          · rw [if_neg (fun z => hp (z.trans hj)), if_pos hj, if_pos hj]
          · rw [if_neg hj, if_neg hj]
    exact this kv q
theorem putI_len {β : Type} (kv : List (Int × β)) (n : Int) (x : β) : (putI kv n x).length ≤ kv.length + 1 := by
  unfold putI
  split <;> simp
theorem o_dict0 {kx : DI α → Prop} (h : kx ⟨[]⟩) : O Y tDNewK Γ (oDI (d := d)) kx := fun e F σ H s Q q => fun p hp =>
  q _ F _ _ _ h (s.base.own hp (fun _ z => by cases z)) ⟨p, [], rfl, rfl, trivial⟩
theorem z_dput {pin : Option V} {i : Nat} {x : DI α} (hi : Γ[i]? = some (.own (dDI (d := d)) (oDI (d := d)) pin x)) (h : W Y tv Γ d fun y => R Y tk Γ dInt fun n => x.kv.length < PySem.sizeLine ∧ k.nx (Γ.set i (.own (dDI (d := d)) (oDI (d := d)) pin ⟨putI x.kv n y⟩))) :
    Z Y (sDPut (tVar i) tk tv) Γ k := fun e F σ H D hM s c => h e F σ H s _ fun w F1 H1 y hy g1 r1 => by
  obtain ⟨v0, e1, r0⟩ := (s.grow g1).own hi
  refine ⟨v0, e1, hy e F1 σ H1 (s.grow g1) _ fun v2 F2 H2 n ⟨hl, kn⟩ g2 r2 => ?_⟩
  cases (show v2 = .int n from r2)
  obtain ⟨v, Li, rest, e2, ⟨a, ps, rfl, rfl, r⟩, kw, f⟩ := ((s.grow g1).grow g2).mut hi
  rw [e1] at e2
  cases (Option.some.inj e2)
  have ha : H2 a = some (.dK ps) := (kw.ow (a, .dK ps) (by simp)).2.1
  refine ⟨a, _, rfl, DPut.k (k := Sum.inl n) ha (by rw [r.len]; exact hl), ?_⟩
  exact c.nx F2 σ _ _ kn (f F2 _ [(a, .dK (putK ps (Sum.inl n) w))] ⟨putI x.kv n y⟩ (Same.refl F2) (kw.put (fun _ z => by cases z)) ⟨a, _, rfl, rfl, r.put (d.mono g2.ff r1)⟩)

/-! slices -/
def cutL {α : Type} (xs : List α) (lo hi : Option Int) : List α := (xs.drop (HT.sIx xs.length 0 lo)).take (HT.sIx xs.length xs.length hi - HT.sIx xs.length 0 lo)
theorem cut_rep {F : Hp} {vs : List V} {xs : List α} (r : Reps d C F vs xs) (lo hi : Option Int) : Reps d C F (cutV vs lo hi) (cutL xs lo hi) := by
  unfold cutV cutL
  rw [r.len]
  exact (r.drop _).take _
/-- a part of a slice -/
def TOk (Y : YC) (to : TO) (Γ : List Cell) (k : Option Int → Prop) : Prop := ∀ (e : En) (F : Hp) (σ : St) (H : Hp), State Y e F σ H Γ → ∀ Q : Option Int → Hp → Prop, (∀ o F' H', k o → Gr F H F' H' → Q o H') → to σ H Q
theorem to_none {kx : Option Int → Prop} (h : kx none) : TOk Y tNoPart Γ kx := fun e F σ H s Q q => q none F H h s.base
theorem to_some {kx : Option Int → Prop} (h : R Y te Γ dInt fun n => kx (some n)) : TOk Y (tPart te) Γ kx := fun e F σ H s Q q => h e F σ H s _ fun v F' H' n kn g r => ⟨n, r, q (some n) F' H' kn g⟩
theorem o_sl {tl th : TO} {kx : List α → Prop} (h : W Y te Γ (dList (d := d)) fun xs => TOk Y tl Γ fun lo => TOk Y th Γ fun hi => kx (cutL xs lo hi)) : O Y (tSl (rSlL Y.K) te tl th) Γ (oList (d := d)) kx := fun e F σ H s Q q => h e F σ H s _ fun v F1 H1 xs h1 g1 ⟨a, vs, e1, hq, r⟩ => by
  subst e1
  refine h1 e F1 σ H1 (s.grow g1) _ fun lo F2 H2 h2 g2 => h2 e F2 σ H2 ((s.grow g1).grow g2) _ fun hi F3 H3 h3 g3 => ⟨a, vs, rfl, ?_, fun p hp => ?_⟩
  · exact (g1.fh.trans (g2.hh0.trans g3.hh0)).seq hq
  · obtain ⟨h4, h5⟩ := o_new (L := []) g3.base hp (cut_rep (r.mono (g2.ff.trans g3.ff)) lo hi)
    have g4 := ((g1.trans0 g2).trans0 g3).trans h4
    exact q _ F3 _ _ _ h3 (by simpa using g4) h5

/-! xs.append(ys.pop(i)) -/
theorem Reps.erase {F : Hp} : ∀ {vs : List V} {xs : List α} (i : Nat), Reps d C F vs xs → Reps d C F (vs.eraseIdx i) (xs.eraseIdx i)
  | [], [], _, _ => by simp [Reps]
  | _ :: _, _ :: _, 0, h => h.2
  | _ :: _, _ :: _, i + 1, h => ⟨h.1, Reps.erase i h.2⟩
  | [], _ :: _, _, h => h.elim
  | _ :: _, [], _, h => h.elim
theorem z_appendPop {p1 p2 : Option V} {i j : Nat} {xs ys : List α} (hij : i ≠ j) (hi : Γ[i]? = some (.own (dList (d := d)) (oList (d := d)) p1 xs)) (hj : Γ[j]? = some (.own (dList (d := d)) (oList (d := d)) p2 ys))
    (h : R Y ta Γ dInt fun n => ∃ m y, (0 ≤ n ∧ n < 2 ^ 63 ∧ seqIndex? n ys.length = some m ∧ ys[m]? = some y) ∧ xs.length < PySem.sizeLine ∧ k.nx ((Γ.set j (.own (dList (d := d)) (oList (d := d)) p2 (ys.eraseIdx m))).set i (.own (dList (d := d)) (oList (d := d)) p1 (xs ++ [y])))) :
    Z Y (tDrop (tBM Y.K "list" rAppend (tVar i) (tCons (tBM Y.K "list" rPopAt (tVar j) (tCons ta tNil)) tNil))) Γ k := fun e F σ H D hM s c => by
  obtain ⟨v0, _, _, e1, ⟨a0, vs0, rfl, rfl, _⟩, kw0, _⟩ := s.mut hi
  have ha0 : H a0 = some (.lst vs0) := (kw0.ow (a0, .lst vs0) (by simp)).2.1
  obtain ⟨v1, _, _, e2, ⟨a1, vs1, rfl, rfl, _⟩, kw1, _⟩ := s.mut hj
  have ha1 : H a1 = some (.lst vs1) := (kw1.ow (a1, .lst vs1) (by simp)).2.1
  refine ⟨.ref a0, e1, .inl ⟨rfl, vs0, .inl (.inl ha0)⟩, .ref a1, e2, .inl ⟨rfl, vs1, .inl (.inl ha1)⟩, h e F σ H s _ fun v F1 H1 n ⟨m, y, ⟨h0, h63, hm, hy⟩, hl, kn⟩ g r => ?_⟩
  cases (show v = .int n from r)
  obtain ⟨w1, L1, rest1, e3, ⟨b1, us1, rfl, rfl, r1⟩, kv1, f1⟩ := (s.grow g).mut hj
  rw [e2] at e3
  cases (Option.some.inj e3)
  have hb1 : H1 a1 = some (.lst us1) := (kv1.ow (a1, .lst us1) (by simp)).2.1
  obtain ⟨wv, hwv, rwv⟩ := r1.get hy
  refine ⟨a1, us1, n, m, wv, rfl, rfl, hb1, by omega, h63, by rw [r1.len]; exact hm, hwv, ?_⟩
  have s2 := f1 F1 _ [(a1, .lst (us1.eraseIdx m))] (ys.eraseIdx m) (Same.refl F1) (kv1.put (fun _ z => by cases z)) ⟨a1, _, rfl, rfl, r1.erase m⟩
  have hi2 : (Γ.set j (.own (dList (d := d)) (oList (d := d)) p2 (ys.eraseIdx m)))[i]? = some (.own (dList (d := d)) (oList (d := d)) p1 xs) := by
    rw [List.getElem?_set_ne (fun z => hij z.symm)]; exact hi
  obtain ⟨w0, L0, rest0, e4, ⟨b0, us0, rfl, rfl, r0⟩, kv0, f0⟩ := s2.mut hi2
  rw [e1] at e4
  cases (Option.some.inj e4)
  have hb0 := (kv0.ow (a0, .lst us0) (by simp)).2.1
  refine ⟨a0, us0, wv, rfl, rfl, hb0, by rw [r0.len]; exact hl, ?_⟩
  exact c.nx F1 σ _ _ kn (f0 F1 _ [(a0, .lst (us0 ++ [wv]))] (xs ++ [y]) (Same.refl F1) (kv0.put (fun _ z => by cases z)) ⟨a0, _, rfl, rfl, r0.append (Reps.one rwv)⟩)

/-! parts of what is owned -/
theorem Wk.sublist {e : En} {F : Hp} {L L' : LO} {H : Hp} (a : Wk e F L H) (h : L'.Sublist L) : Wk e F L' H :=
  a.sub (fun p hp => h.subset hp) ((h.map Prod.fst).nodup a.nd)
theorem Wk.blank {e : En} {F : Hp} {L : LO} {H : Hp} (a : Wk e F L H) : Wk ⟨F, fun _ => none, []⟩ F L H :=
  ⟨Same.refl _, fun _ _ _ z => (nomatch z), fun _ z => absurd rfl z, a.fh, fun _ z _ => absurd rfl z, a.tp, fun p hp => ⟨(a.ow p hp).1, (a.ow p hp).2.1, .inl rfl⟩, a.nd⟩
theorem Slots.wipe {F : Hp} {σ : St} {L : LO} (h : Slots C F σ Γ L) : ∀ vs : List Nat, ∃ L', L'.Sublist L ∧ Slots C F (wipe σ vs) (wipeC Γ vs) L'
  | [] => ⟨L, List.Sublist.refl _, h⟩
  | v :: vs => by
    obtain ⟨L1, h1, h2⟩ := Slots.wipe h vs
    unfold L2.wipe wipeC
    cases q : (wipeC Γ vs)[v]? with
    | some c =>
      obtain ⟨o, M1, Mi, M2, e1, e2, _, f⟩ := h2.get q
      refine ⟨M1 ++ M2, ?_, by simpa using f F none .no [] (Same.refl F) rfl⟩
      refine List.Sublist.trans ?_ h1
      rw [e2, List.append_assoc]
      exact List.Sublist.append_left (List.sublist_append_right _ _) _
    | none =>
      have l1 : (wipeC Γ vs).length ≤ v := List.getElem?_eq_none_iff.mp q
      have l2 : (L2.wipe σ vs).length ≤ v := by rw [h2.len]; exact l1
      rw [List.set_eq_of_length_le l1, List.set_eq_of_length_le l2]
      exact ⟨L1, h1, h2⟩
/-! [x for x in OWNED if t]: the owned items that are picked -/
theorem o_lcPick {od : @OD α d} {tl : TE} {vs : List Nat} {j : Nat} {c0 : Cell} {kx : List α → Prop} (hj : j ∈ vs) (hc : (wipeC Γ vs)[j]? = some c0) (p : α → Bool)
    (h : O Y tl Γ (oDeep od) fun xs => xs.length ≤ PySem.sizeLine ∧ (∀ x ∈ xs, T (calm Y.g) tt ((wipeC Γ vs).set j (.val d x)) (· = p x)) ∧ kx (xs.filter p)) : O Y (tLc (iList Y.K tl) (gName j) tt (tVar j) vs) Γ (oDeep od) kx := fun e F σ H s Q q => h e F σ H s _ fun v F1 H1 L1 xs ⟨hsz, ht, hk⟩ g1 ⟨a, us, L2, e1, e2, r⟩ => by
  subst e1 e2
  have s1 := s.growL g1
  have ha : H1 a = some (.lst us) := (g1.ow (a, .lst us) (by simp)).2.1
  refine ⟨a, rfl, ⟨us, .inl (.inl ha)⟩, fun D hD => ?_⟩
  have hDa : a ≠ D := ne_of_none ha hD
  have kw0 : Wk ⟨F, H, []⟩ F1 ((D, .lst []) :: ((a, .lst us) :: L2)) (upd H1 D (.lst [])) := g1.own hD (fun _ z => by cases z)
  refine lc_list (K := Y.K) (a := a) (xs := us) (fun i H' => ∃ F' acc La Lb, Wk ⟨F, H, []⟩ F' ((D, .lst acc) :: (a, .lst us) :: (La ++ Lb)) H' ∧ OReps od Y.g F' acc ((xs.take i).filter p) La ∧ OReps od Y.g F' (us.drop i) (xs.drop i) Lb ∧ Same F1 F') ⟨F1, [], [], L2, kw0, rfl, r, Same.refl _⟩ (fun i H' _ ⟨F', acc, La, Lb, kw, _⟩ => .inl (.inl (kw.ow (a, .lst us) (by simp)).2.1)) (fun i w H' hw ⟨F', acc, La, Lb, kw, ra, rb, sm⟩ => ?_) fun H' ⟨F', acc, La, Lb, kw, ra, rb, sm⟩ => ?_
  · -- one turn
    have hlt : i < us.length := (List.getElem?_eq_some_iff.mp hw).1
    have hlx : i < xs.length := by rw [← r.len]; exact hlt
    have hx : xs[i]? = some xs[i] := by simp [hlx]
    generalize xs[i] = x at hx
    have hxm : x ∈ xs := List.mem_of_getElem? hx
    have du : us.drop i = w :: us.drop (i + 1) := by rw [← List.getElem_cons_drop hlt]; congr 1; exact (List.getElem?_eq_some_iff.mp hw).2
    have dx : xs.drop i = x :: xs.drop (i + 1) := by rw [← List.getElem_cons_drop hlx]; congr 1; exact (List.getElem?_eq_some_iff.mp hx).2
    rw [du, dx] at rb
    obtain ⟨Lx, Lb', eL, rx, rb'⟩ := rb
    subst eL
    -- the item, as if it were frozen
    obtain ⟨_, L0, k0, sl0⟩ := id s
    have kall := k0.trans kw
    obtain ⟨Lw, hLw, slw⟩ := (sl0.mono kw.ff).wipe vs
    obtain ⟨o1, M1, Mi, M2, f1, f2, f3, f4⟩ := slw.get hc
    have kx1 : Wk ⟨F', fun _ => none, []⟩ F' (Lx ++ (M1 ++ M2)) H' := by
      refine kall.blank.sublist ?_
      refine List.Sublist.append ?_ (List.Sublist.trans ?_ hLw)
      · refine .cons _ (.cons _ ?_)
        exact List.Sublist.trans (List.sublist_append_left _ _) (List.sublist_append_right _ _)
      · rw [f2, List.append_assoc]
        exact List.Sublist.append_left (List.sublist_append_right _ _) _
    have fx : ∀ q ∈ Lx, F' q.1 = none := fun q hq => (kx1.ow q (List.mem_append_left _ hq)).1
    have nx : (Lx.map Prod.fst).Nodup := by
      have n := kx1.nd
      rw [List.map_append] at n
      exact (List.nodup_append.mp n).1
    have kf := kx1.freeze fun _ _ z => (nomatch z)
    have smx := same_plus fx nx
    have repx : d.rep Y.g (plus F' Lx) w x := od.view rx smx (plus_get fx nx)
    have st2 : State (calm Y.g) ⟨F', fun _ => none, []⟩ (plus F' Lx) ((wipe σ vs).set j (some w)) H' ((wipeC Γ vs).set j (.val d x)) :=
      ⟨fun _ _ _ _ _ _ z => z.elim, M1 ++ M2, kf, by simpa using f4 (plus F' Lx) (some w) (.val d x) [] smx ⟨rfl, w, rfl, repx⟩⟩
    have hwj : ((wipe σ vs).set j (some w))[j]? = some (some w) := by
      rw [List.getElem?_set_self]
      rw [slw.len]
      exact (List.getElem?_eq_some_iff.mp hc).1
    have tk : ((xs.take (i + 1)).filter p) = (xs.take i).filter p ++ (if p x then [x] else []) := getElem?_filterTake p xs hx
    refine ⟨by rw [wipe_at hj, wipe_wipe], ht x hxm _ _ _ _ st2 _ fun b F2 H2 hb g2 => ?_⟩
    subst hb
    have g3 := fresh_gr kw.base g2
    have kw3 := kw.trans0 g3
    have ra3 := ra.mono g3.ff
    have rb3 := rb'.mono g3.ff
    cases hp : p x with
    | true =>
      rw [hp, if_pos rfl] at tk
      refine ⟨w, hwj, acc, (kw3.ow (D, .lst acc) (by simp)).2.1, ?_, fresh F' H' F2, acc ++ [w], La ++ Lx, Lb', ?_, ?_, rb3, sm.trans g3.ff⟩
      · rw [ra3.len]
        have h1 := List.length_filter_le p (xs.take i)
        rw [List.length_take] at h1
        omega
      · have k4 : Wk ⟨F, H, []⟩ (fresh F' H' F2) ((D, .lst (acc ++ [w])) :: (a, .lst us) :: (La ++ (Lx ++ Lb'))) _ := kw3.put (o' := .lst (acc ++ [w])) (fun _ z => by cases z)
        rw [List.append_assoc]
        exact k4
      · rw [tk]
        exact ra3.append (OReps.one (od.omono g3.ff rx))
    | false =>
      rw [hp, if_neg (fun z => (nomatch z)), List.append_nil] at tk
      refine ⟨fresh F' H' F2, acc, La, Lb', kw3.sublist ?_, by rw [tk]; exact ra3, rb3, sm.trans g3.ff⟩
      exact .cons₂ _ (.cons₂ _ (List.Sublist.append_left (List.sublist_append_right _ _) _))
  · rw [r.len, List.take_length] at ra
    exact q _ F' H' ((D, .lst acc) :: La) _ hk (kw.sublist (.cons₂ _ (.cons _ (List.sublist_append_left _ _)))) ⟨D, acc, La, rfl, rfl, ra⟩
/-! for x in OWNED: x.append(n) -/
theorem z_forApp {i j : Nat} {pin : Option V} {gs : List (List Int)} {n : Int} {c0 : Cell} (hij : i ≠ j) (hi : Γ[i]? = some (.own (dList (d := dList (d := dInt))) (oDeep (oList (d := dInt))) pin gs)) (hj : Γ[j]? = some c0)
    (hl : ∀ x ∈ gs, x.length < PySem.sizeLine) (h : k.nx ((Γ.set i (.own (dList (d := dList (d := dInt))) (oDeep (oList (d := dInt))) pin (gs.map (· ++ [n])))).set j .no)) :
    Z Y (tFor (iList Y.K (tVar i)) (gName j) (tDrop (tBM Y.K "list" rAppend (tVar j) (tCons (tC (.int n)) tNil)))) Γ k := fun e F σ H D hM s c => by
  have s0 := s.hide hj
  have hi0 : (Γ.set j .no)[i]? = some (.own (dList (d := dList (d := dInt))) (oDeep (oList (d := dInt))) pin gs) := by rw [List.getElem?_set_ne (fun z => hij z.symm)]; exact hi
  obtain ⟨v, Li, rest, e1, ⟨a, vs, L2, rfl, rfl, r⟩, kw, f⟩ := s0.mut hi0
  have ha : H a = some (.lst vs) := (kw.ow (a, .lst vs) (by simp)).2.1
  refine ⟨.ref a, e1, a, rfl, ⟨vs, .inl (.inl ha)⟩, for_list (K := Y.K) (a := a) (xs := vs) (fun m σ' H' => ∃ o L1 Lb, σ' = σ.set j o ∧ Wk e F ((a, .lst vs) :: (L1 ++ Lb) ++ rest) H' ∧ OReps (oList (d := dInt)) Y.g F (vs.take m) ((gs.take m).map (· ++ [n])) L1 ∧ OReps (oList (d := dInt)) Y.g F (vs.drop m) (gs.drop m) Lb) ?_ (fun m σ' H' _ ⟨o, L1, Lb, _, k1, _⟩ => .inl (.inl (k1.ow (a, .lst vs) (by simp)).2.1)) (fun m w σ' H' hw ⟨o, L1, Lb, es, k1, r1, rb⟩ => ?_) fun σ' H' ⟨o, L1, Lb, es, k1, r1, rb⟩ => ?_⟩
  · obtain ⟨oj, hoj⟩ : ∃ oj, σ[j]? = some oj := by
      have hjl : j < σ.length := by rw [s.len]; exact (List.getElem?_eq_some_iff.mp hj).1
      exact ⟨σ[j], by simp [hjl]⟩
    refine ⟨oj, [], L2, ?_, kw, rfl, r⟩
    apply List.ext_getElem?
    intro m
    by_cases hm : j = m
    · subst hm
      rw [List.getElem?_set_self (List.getElem?_eq_some_iff.mp hoj).1, hoj]
    · rw [List.getElem?_set_ne hm]
  · have hlt : m < vs.length := (List.getElem?_eq_some_iff.mp hw).1
    have hlx : m < gs.length := by rw [← r.len]; exact hlt
    have hx : gs[m]? = some gs[m] := by simp [hlx]
    generalize gs[m] = x at hx
    have dv : vs.drop m = w :: vs.drop (m + 1) := by rw [← List.getElem_cons_drop hlt]; congr 1; exact (List.getElem?_eq_some_iff.mp hw).2
    have dx : gs.drop m = x :: gs.drop (m + 1) := by rw [← List.getElem_cons_drop hlx]; congr 1; exact (List.getElem?_eq_some_iff.mp hx).2
    rw [dv, dx] at rb
    obtain ⟨Lx, Lb', eL, ⟨b, us, e2, e3, ru⟩, rb'⟩ := rb
    subst eL e2 e3
    have hb : H' b = some (.lst us) := (k1.ow (b, .lst us) (by simp)).2.1
    have hsj : (σ'.set j (some (.ref b)))[j]? = some (some (.ref b)) := by
      rw [List.getElem?_set_self]
      rw [es, List.length_set, s.len]
      exact (List.getElem?_eq_some_iff.mp hj).1
    refine ⟨.ref b, hsj, .inl ⟨rfl, us, .inl (.inl hb)⟩, b, us, .int n, rfl, rfl, hb, by rw [ru.len]; exact hl x (List.mem_of_getElem? hx), ?_⟩
    refine ⟨some (.ref b), L1 ++ [(b, .lst (us ++ [.int n]))], Lb', by rw [es]; exact List.set_set _, ?_, ?_, rb'⟩
    · have k2 : Wk e F (((a, .lst vs) :: L1) ++ [(b, .lst us)] ++ (Lb' ++ rest)) H' := by simpa [List.append_assoc] using k1
      have k3 := k2.front.put (o' := .lst (us ++ [.int n])) (fun _ z => by cases z)
      have k4 : Wk e F (((a, .lst vs) :: L1) ++ [(b, .lst (us ++ [.int n]))] ++ (Lb' ++ rest)) _ := Wk.back (Li := [(b, .lst (us ++ [.int n]))]) k3
      simpa [List.append_assoc] using k4
    · rw [List.take_add_one, hw, List.take_add_one, hx, List.map_append]
      exact r1.append (OReps.one ⟨b, _, rfl, rfl, ru.append (Reps.one rfl)⟩)
  · rw [List.take_length] at r1
    rw [r.len, List.take_length] at r1
    have k2 : Wk e F (((a, .lst vs) :: L1) ++ rest) H' := k1.sublist (by
      rw [List.cons_append, List.cons_append]
      exact .cons₂ _ (List.Sublist.append_right (List.sublist_append_left _ _) _))
    have st := f F H' ((a, .lst vs) :: L1) (gs.map (· ++ [n])) (Same.refl F) k2 ⟨a, vs, L1, rfl, rfl, r1⟩
    have st2 := st.forget (i := j) (o := o) (c := .no) (by
      rw [List.getElem?_set_ne hij, List.getElem?_set_self (List.getElem?_eq_some_iff.mp hj).1])
    rw [← es] at st2
    have eΓ : ((Γ.set j .no).set i (.own (dList (d := dList (d := dInt))) (oDeep (oList (d := dInt))) pin (gs.map (· ++ [n])))).set j .no = (Γ.set i (.own (dList (d := dList (d := dInt))) (oDeep (oList (d := dInt))) pin (gs.map (· ++ [n])))).set j .no := by
      rw [set_comm _ _ _ (fun z => hij z.symm), List.set_set]
    rw [eΓ] at st2
    exact c.nx F σ' H' _ h st2
end
end G

/-! E1: super().__init__('..') within the __init__ of an own exception class. -/
namespace G
open PySem PySem.Spec PyProof.Rows L2 PySem.W
theorem super_init {X : Cx} {pins : List (Addr × Obj)} {σ : L2.St} {H : Hp} {s : Shared} {Q : Flow → Shared → Prop} {E : Value → Shared → Prop} {body : List Stmt} {f cc cda D a C : Addr} {fd : FuncData} {ar : Arg} {vs : Array Value} {file : Str} {tf : Tok}
    {oc ccl cl : Value} {od cdd cld : Option Addr} {osl ccs csl : Array (Option Value)} {cdD cdC : ClassData} {m : Str} {j : Nat} {p0 p1 p2 p3 p4 p5 : Pos} {pl : Sem Bool}
    (I : Inv X pins σ H s) (hfun : X.env.func = some f) (hcode : X.env.code = .ref cda) (hks : X.env.kindOf "super" = some .globalImplicit) (hkc : X.env.kindOf "__class__" = some .free) (hcl : X.env.cells.lookup ("__class__" : Str) = some cc)
    (kf : X.K.lookup f = some ⟨oc, od, .func fd, osl⟩) (hp : (fd.params.posonlyargs ++ fd.params.args).head? = some ar) (hN : X.N[0]? = some ar.arg) (hl : X.env.kindOf ar.arg = some .local) (h0 : σ[0]? = some (some (.ref a)))
    (kcell : X.K.lookup cc = some ⟨cl, cld, .cell (some (.ref D)), csl⟩) (kcode : X.K.lookup cda = some ⟨ccl, cdd, .fields vs, ccs⟩) (hvs : vs[2]? = some (.str file tf)) (hfile : ((X.prog.main.file : Str) == file) = true)
    (kD : clsIn X.K D = some cdD) (kC : clsIn X.K C = some cdC) (hsub : mroIn X.K C (.ref D) = some true) (hsup : X.mg "super" = none) (htop : (X.prog.main.scope.names.lookup ("super" : Str)).isSome = false)
    (hst : nsIn X.K cStatics "thirdparty.any" = some none) (hin : ks_superIn X.K C D "__init__" = some (some (.builtin "ValueError.__init__"))) (hB : subIn X.K (.ref C) (.type "ValueError") = some true)
    (T : OexC X.K C) (ea : H a = some (exo a C none)) (hq : ∀ s', Inv X pins σ H s' → Q .next s')
    (he : eval (.Call (.Attribute (.Call (.Name "super" p0) [] [] p1) "__init__" p2) [.Constant (.str m) j p3] [] p4) X.env = (do
      let ov ← attributeBase (.Call (.Name "super" p0) [] [] p1) "__init__" X.env (eval (.Call (.Name "super" p0) [] [] p1) X.env)
      standAt p2.atName
      let (f, first) ← holding [ov] (getMethod ov "__init__" pl)
      callWith p4 f first (backTo p4 (starEach [.Constant (.str m) j p3] X.env)) [])) :
    _root_.PySem.wpAt (model X.prog X.w) X.A (.func body X.env) (exec (.Expr (.Call (.Attribute (.Call (.Name "super" p0) [] [] p1) "__init__" p2) [.Constant (.str m) j p3] [] p4) p5) X.env) Q E s := by
  obtain ⟨nm, q, N, bs, bm, sn, sub, ab, col, dd, k0, k1, k2, k3, k5, hC, hbm⟩ := T.cls
  obtain ⟨t1, ho⟩ := exo_at I.hok ea
  refine ks_wpAt_Expr_any (hs := ?hs) ?hm I.quiet
  case hs => rfl
  refine ks_wpAt_MethodCall (he := he) ?_
  refine ks_wpAt_super_base hks hkc rfl hfun (I.kIn _ _ kf) rfl hp hcode (I.kIn _ _ kcode) rfl hvs hfile htop ?_
  obtain ⟨mb, b1, b2⟩ := I.mod.blt
  refine ks_loadName_global I.ok.kind hks (Calls.loadGlobal_builtin (by rw [I.ok.glob]; exact I.mod.glob.keeps I.bk) hsup (by rw [I.ok.blt]; exact b1.keeps I.bk) ((b2 _ (by decide)).trans (PyProof.Rows.Boot.«super»)) ⟨rfl, ?_⟩)
  refine wpAny_loadName_free I.ok.kind hkc hcl ⟨_, I.kIn _ _ kcell, rfl⟩ ?_
  obtain ⟨mm, hn, hlk⟩ := I.loc
  obtain ⟨u0, ru, lk⟩ := hlk 0 ar.arg (.ref a) hN h0 (.inl hl)
  obtain rfl : u0 = Value.ref a := ru
  have hm0 : mm ar.arg = some (.ref a) := by
    rcases lk with ⟨_, h⟩ | ⟨h, _⟩
    · exact h
    · rw [hl] at h; rcases h with h | h <;> cases h
  refine wpAny_loadName_local I.ok.kind hl hn hm0 ?_
  obtain ⟨oD, hD1, hD2⟩ : ∃ oD, s.heap.get? D = some oD ∧ oD.data = .cls cdD := by
    unfold clsIn at kD
    split at kD
    · rename_i c d cd' sl hoD
      cases kD
      exact ⟨_, I.kIn _ _ hoD, rfl⟩
    · cases kD
  refine ks_wpAny_isType_cls hD1 hD2 ⟨rfl, ?_⟩
  have hty : Looks (model X.prog X.w) s.heap (typeOf (.ref a)) (.ref C) := (InstAt.mk (ox := ({ cls := .ref C, dict := none, data := .fields #[.ref t1, .none, .none, .none, .bool false, .none] } : Obj)) (od := none) ho rfl rfl trivial).type
  obtain ⟨hh, g, d, t, os⟩ := s
  refine ks_wpAny_call_super hD1 hD2 ho rfl (fun c e => by cases e) (looks_mroIn I.kIn hsub) (fun h' e k => ?_)
  have I1 : Inv X pins σ H ⟨h', g, d, t, os⟩ := I.kept (t' := t) k
  have hI : Looks (model X.prog X.w) h' (isInstance (.ref a) (.type "ValueError")) true := (hty.keeps k).andThen (looks_subIn I1.kIn hB)
  have hne : a ≠ C := fun z => by
    have h1 := I.kIn _ _ hC
    rw [← z, show (Shared.heap ⟨hh, g, d, t, os⟩).get? a = _ from ho] at h1
    cases h1
  have hmr : Looks (model X.prog X.w) h' (mroOf (.ref C)) cdC.mro := fun A Q E s k q => wpAny_bind ((looks_clsIn I1.kIn kC) A _ E s k (wpAny_pure q))
  have hin' : alongIn X.K "__init__" ((cdC.mro.dropWhile (· != .ref D)).drop 1) = some (some (.builtin "ValueError.__init__")) := by
    unfold ks_superIn at hin
    rw [kC] at hin
    exact hin
  refine kxs_getMethod kxs_ValueError e (looks_opaque I1.kIn hst) (l₀ := cdC.mro) hmr rfl I1.kIn hin' hI hne rfl ?_
  have hu : (h'.push (kxs_mw "ValueError.__init__" a)).get? h'.objs.size = some (kxs_mw "ValueError.__init__" a) := Heap.get?_push_at rfl rfl
  have I2 : Inv X pins σ H ⟨h'.push (kxs_mw "ValueError.__init__" a), g, d, t + 1, os⟩ := I1.kept (t' := t + 1) fun b o e => Heap.get?_push_of_some _ e
  refine kxs_callWith (i := "ValueError.__init__") (x := a) rfl ?_
  show wpAny _ _ (evalArgs _ true ((false, eval (.Constant (.str m) j p3) X.env) :: []) []) _ _ _
  refine Calls.evalArgs_plain (Calls.spliced_cons (Calls.Constant_str (Calls.spliced_nil ⟨hu, ?_⟩)))
  have I3 : Inv X pins σ H ⟨h'.push (kxs_mw "ValueError.__init__" a), g, d, t + 1 + 1, os⟩ := I2.kept (t' := t + 1 + 1) fun b o e => e
  obtain ⟨t2, ho2⟩ := exo_at I3.hok ea
  show wpAny _ _ (call (.ref h'.objs.size) [.str m (t + 1)]) _ _ _
  refine wpAny_call (codeAny_of_tree ?_)
  show wpAny _ X.A.in1 (callAny (.ref h'.objs.size) ⟨[.str m (t + 1)], []⟩) _ _ _
  simp only [callAny]
  refine wpAny_bind (wpAny_load hu ?_)
  simp only [kxs_mw, show (Value.type "method-wrapper" == Value.type "method" || Value.type "method-wrapper" == Value.type "builtin_function_or_method" || Value.type "method-wrapper" == Value.type "method-wrapper") = true by decide, if_true]
  refine KFB.if_so (by decide) ?_
  refine wpAny_bind (check_bound_init F.excBase_ValueError.toExcCallFacts (I3.kIn _ _ hC) ho2 rfl ?_)
  refine wpAny_bind (wpAny_pure (wpAny_pure ?_))
  refine ⟨plainId_quiet F.excBase_ValueError.init.plain _, codeAny_builtin F.excBase_ValueError.initEntry ?_⟩
  refine exc_init_tree (cls := .ref C) (t0 := t2) (dv := none) (c2 := .none) (c3 := .none) (b4 := .bool false) ho2 (by show 1 ≤ sizeLine; rw [sizeLine_eq]; omega) fun h3 k3 e3 e4 => ?_
  have J := I3.write (t' := t + 1 + 1) (x := a) (e := a) (o := exo a C none) (by rw [ea]; exact True.intro) (.inl rfl) k3 ⟨_, e3⟩ (exo_ok e3)
  have eu : upd H a (exo a C none) = H := by
    funext b
    by_cases hb : b = a
    · rw [hb, upd_same, ea]
    · rw [upd_ne hb]
  rw [eu] at J
  exact hq _ J

/-- a class's __init__ that begins with super().__init__('..'): the rest of its body -/
theorem fok_super {P : Program} {w : World} {K : Frag} {mg : Str → Option Value} {base : Heap} {CXt : CXT} {k : Nat} {f cc D : Addr} {N ps : List Str} {F : NdefX.NF} {doc pm ctv : Value} {sp : Sp} {rest : List Stmt} {ar : Arg} {vs0 : Array Value} {file : Str} {tf : Tok}
    {oc ccl cl : Value} {od cdd cld : Option Addr} {osl ccs csl : Array (Option Value)} {cdD : ClassData} {m : Str} {j : Nat} {p0 p1 p2 p3 p4 p5 : Pos} {pl : Sem Bool}
    (S : NdefX.NScope N ps ["__class__"] F.scope) (hF : F.cl = [(("__class__" : Str), cc)]) (hb : F.body = .Expr (.Call (.Attribute (.Call (.Name "super" p0) [] [] p1) "__init__" p2) [.Constant (.str m) j p3] [] p4) p5 :: rest)
    (hks : F.scope.names.lookup ("super" : Str) = some .globalImplicit) (kf : K.lookup f = some ⟨oc, od, .func (F.fd doc pm ctv), osl⟩) (hp : (F.params.posonlyargs ++ F.params.args).head? = some ar) (hN : N[0]? = some ar.arg) (hl : F.scope.names.lookup ar.arg = some .local)
    (kcell : K.lookup cc = some ⟨cl, cld, .cell (some (.ref D)), csl⟩) (kcode : K.lookup F.c = some ⟨ccl, cdd, .fields vs0, ccs⟩) (hvs : vs0[2]? = some (.str file tf)) (hcd : codeIn K (.ref F.c) F.qual = true) (hfile : ((P.main.file : Str) == file) = true)
    (kD : clsIn K D = some cdD) (hsup : mg "super" = none) (htop : (P.main.scope.names.lookup ("super" : Str)).isSome = false) (hst : nsIn K cStatics "thirdparty.any" = some none)
    (he : ∀ env : Env, eval (.Call (.Attribute (.Call (.Name "super" p0) [] [] p1) "__init__" p2) [.Constant (.str m) j p3] [] p4) env = (do
      let ov ← attributeBase (.Call (.Name "super" p0) [] [] p1) "__init__" env (eval (.Call (.Name "super" p0) [] [] p1) env)
      standAt p2.atName
      let (f, first) ← holding [ov] (getMethod ov "__init__" pl)
      callWith p4 f first (backTo p4 (starEach [.Constant (.str m) j p3] env)) []))
    (len : ∀ vs H Q E, sp vs H Q E → vs.length = ps.length)
    (walk : ∀ (A : Around) (outer : List Env) (s : Shared) (H : Hp) (vs : List V) (Q : VK) (E : XK), Room k (A.deeper (NdefX.envF F f s.heap.objs.size)) → sp vs H Q E →
      ∃ a C cdC, vs[0]? = some (.ref a) ∧ H a = some (exo a C none) ∧ OexC K C ∧ clsIn K C = some cdC ∧ mroIn K C (.ref D) = some true ∧ ks_superIn K C D "__init__" = some (some (.builtin "ValueError.__init__")) ∧ subIn K (.ref C) (.type "ValueError") = some true ∧
        ∃ t, PSs (NdefX.ncx CXt P w K mg base N F f A outer s H E) rest t ∧ t { nx := fun _ H' => Q .non H', rt := Q } (NdefX.startF N vs [some (.ref D)]) H) :
    FnOk P w K mg base CXt (k + 1) f (F.fd doc pm ctv) ps sp := by
  refine ⟨len, fun A outer s H args us vs Q E hr e0 hbind r hsp => ?_⟩
  have hlen := len _ _ _ _ hsp
  have kin : K.In s.heap := fun a o e => (e0.bs a o (e0.mod.kin a o e)).1
  have lim : s.heap.NoLimit := e0.mod.nolimit.keeps fun b o e => (e0.bs b o e).1
  have hc0 : H cc = none := (e0.bs cc _ (e0.mod.kin _ _ kcell)).2
  have cls1 : ∀ y c, F.cl.lookup y = some c → y = ("__class__" : Str) ∧ c = cc := fun y c e => by
    rw [hF, List.lookup_cons] at e
    split at e
    · rename_i z
      cases e
      exact ⟨by simpa using z, rfl⟩
    · cases e
  have C0 : NdefX.CellsAt F.cl ["__class__"] [some (.ref D)] s.heap H := by
    refine ⟨rfl, fun y c e => ?_, fun x y c e1 e2 => ?_, fun i y e => ?_⟩
    · obtain ⟨_, rfl⟩ := cls1 y c e
      exact ⟨hc0, _, _, kin _ _ kcell, rfl⟩
    · rw [(cls1 x c e1).1, (cls1 y c e2).1]
    · cases i with
      | zero =>
        cases (Option.some.inj e)
        refine ⟨cc, by rw [hF]; rfl, fun v hv => ?_⟩
        cases hv
        exact ⟨.ref D, rfl, _, kin _ _ kcell, rfl⟩
      | succ i => cases e
  refine ks_codeAny_call_defAt (fd := F.fd doc pm ctv) hr.depth (kin _ _ kf) rfl lim (codeRec_of kin hcd) rfl hbind S.nocell (fun ⟨n, _⟩ hy => S.par n (List.of_mem_zip hy).1) (fun h₁ hns kp => ?_) S.co S.gen S.kind
  obtain ⟨a, C, cdC, v0, ea, T, kC, hsub, hin, hB, t, ht, hq⟩ := walk A outer s H vs Q E (hr.deeper _) hsp
  have I : Inv (NdefX.ncx CXt P w K mg base N F f A outer s H E) [] (NdefX.startF N vs [some (.ref D)]) H { s with heap := h₁, toks := s.toks + (ps.zip us).length } := NdefX.inv_startN S hr.hd e0 hlen r C0 hns kp
  have h0 : (NdefX.startF N vs [some (V.ref D)])[0]? = some (some (.ref a)) := by
    unfold NdefX.startF
    have : 0 < vs.length := (List.getElem?_eq_some_iff.mp v0).1
    rw [List.getElem?_append_left (by rw [List.length_map]; exact this), List.getElem?_map, v0]
    rfl
  show _root_.PySem.wpAt (model P w) (A.deeper (NdefX.envF F f s.heap.objs.size)) (.func F.body (NdefX.envF F f s.heap.objs.size)) (execs F.body (NdefX.envF F f s.heap.objs.size)) _ _ _
  have fin : ∀ {s' : Shared} {σ' : L2.St} {H' : Hp} {v : V} {u : Value}, Inv (NdefX.ncx CXt P w K mg base N F f A outer s H E) [] σ' H' s' → L2.RelV v u → Q v H' → CE outer P w H s Q u s' :=
    fun {s' σ' H' v u} J rv q => ⟨v, H', J.os, J.bare, J.base, J.hok, rv, q⟩
  rw [show execs F.body (NdefX.envF F f s.heap.objs.size) = execs (_ :: rest) (NdefX.envF F f s.heap.objs.size) from congrArg (fun b => execs b _) hb]
  refine ks_wpAt_execs_cons ?_
  refine super_init (X := NdefX.ncx CXt P w K mg base N F f A outer s H E) (a := a) (C := C) I rfl rfl hks (S.frk _ (by simp)) (by show F.cl.lookup _ = _; rw [hF]; rfl) kf hp hN hl h0 kcell kcode hvs hfile kD kC hsub hsup htop hst hin hB T ea (fun s' I' => ?_) (he _)
  refine _root_.PySem.wpAt_of_wpAny (wpAny_mono (ht.run [] _ _ H _ I' hq) (fun fl s' hs => ?_) fun e s' hs => hs)
  cases fl with
  | ret u =>
    obtain ⟨v, σ', H', J, rv, q⟩ := hs
    exact fin J rv q
  | next =>
    obtain ⟨σ', H', J, q⟩ := hs
    exact fin (v := V.non) (u := Value.none) J rfl q
  | brk =>
    obtain ⟨_, _, _, q⟩ := hs
    exact False.elim q
  | cont =>
    obtain ⟨_, _, _, q⟩ := hs
    exact False.elim q
end G

/-! E2: exceptions of one and of two attributes: their __init__, raising them. -/
namespace G
open PySem PySem.Spec PyProof.Rows L2 PySem.W
/-- what __init__ of one attribute promises -/
def spX1 (C : Addr) (f1 : Str) : Sp := fun vs H Q _ => ∃ a v, vs = [.ref a, v] ∧ H a = some (exo a C none) ∧ ∀ d, H d = none → d ≠ a → Q .non (upd (upd H d (exd d [(f1, v)])) a (exo a C (some d)))
def spX2 (C : Addr) (f1 f2 : Str) : Sp := fun vs H Q _ => ∃ a v1 v2, vs = [.ref a, v1, v2] ∧ H a = some (exo a C none) ∧ ∀ d, H d = none → d ≠ a → Q .non (upd (upd (upd H d (exd d [(f1, v1)])) a (exo a C (some d))) d (exd d [(f2, v2), (f1, v1)]))
/-- what the written part says of such a class -/
structure XCls (K : Frag) (D fI : Addr) : Prop where
  T : OexC K D
  cls : ∃ cd, clsIn K D = some cd
  self : mroIn K D (.ref D) = some true
  sup : ks_superIn K D D "__init__" = some (some (.builtin "ValueError.__init__"))
  ve : subIn K (.ref D) (.type "ValueError") = some true
  init : findIn K (.ref D) "__init__" = some (some (.ref fI))
  fn : typeIn K (.ref fI) = some (.type "function")
section
variable {P : Program} {w : World} {K : Frag} {mg : Str → Option Value} {base : Heap} {CXt : CXT} {k : Nat} {f cc D : Addr} {ps : List Str} {F : NdefX.NF} {doc pm ctv : Value} {ar : Arg} {vs0 : Array Value} {file : Str} {tf : Tok}
    {oc ccl cl : Value} {od cdd cld : Option Addr} {osl ccs csl : Array (Option Value)} {m : Str} {j : Nat} {p0 p1 p2 p3 p4 p5 q1 q2 q3 q4 r1 r2 r3 r4 : Pos} {pl : Sem Bool} {f1 f2 x1 x2 : Str}
theorem fok_exc1 (S : NdefX.NScope [ar.arg, x1, "__class__"] [ar.arg, x1] ["__class__"] F.scope) (hF : F.cl = [(("__class__" : Str), cc)])
    (hb : F.body = [.Expr (.Call (.Attribute (.Call (.Name "super" p0) [] [] p1) "__init__" p2) [.Constant (.str m) j p3] [] p4) p5, .Assign [.Attribute (.Name ar.arg q1) f1 q2] (.Name x1 q3) q4])
    (hd1 : (ar.arg == ("__debug__" : Str)) = false) (hc1 : (ar.arg == ("__classdict__" : Str)) = false) (hd2 : (x1 == ("__debug__" : Str)) = false) (hc2 : (x1 == ("__classdict__" : Str)) = false)
    (hks : F.scope.names.lookup ("super" : Str) = some .globalImplicit) (kf : K.lookup f = some ⟨oc, od, .func (F.fd doc pm ctv), osl⟩) (hp : (F.params.posonlyargs ++ F.params.args).head? = some ar)
    (kcell : K.lookup cc = some ⟨cl, cld, .cell (some (.ref D)), csl⟩) (kcode : K.lookup F.c = some ⟨ccl, cdd, .fields vs0, ccs⟩) (hvs : vs0[2]? = some (.str file tf)) (hcd : codeIn K (.ref F.c) F.qual = true) (hfile : ((P.main.file : Str) == file) = true)
    (X : XCls K D f) (hno : findIn K (.ref D) f1 = some none) (hsup : mg "super" = none) (htop : (P.main.scope.names.lookup ("super" : Str)).isSome = false) (hst : nsIn K cStatics "thirdparty.any" = some none)
    (he : ∀ env : Env, eval (.Call (.Attribute (.Call (.Name "super" p0) [] [] p1) "__init__" p2) [.Constant (.str m) j p3] [] p4) env = (do
      let ov ← attributeBase (.Call (.Name "super" p0) [] [] p1) "__init__" env (eval (.Call (.Name "super" p0) [] [] p1) env)
      standAt p2.atName
      let (f, first) ← holding [ov] (getMethod ov "__init__" pl)
      callWith p4 f first (backTo p4 (starEach [.Constant (.str m) j p3] env)) [])) :
    FnOk P w K mg base CXt (k + 1) f (F.fd doc pm ctv) [ar.arg, x1] (spX1 D f1) := by
  obtain ⟨cdD, kD⟩ := X.cls
  refine fok_super (N := [ar.arg, x1, "__class__"]) (rest := _) S hF hb hks kf hp rfl (S.par _ (by simp)) kcell kcode hvs hcd hfile kD hsup htop hst he (fun vs H Q E ⟨a, v, e, _⟩ => by rw [e]; rfl) (fun A outer s H vs Q E hr ⟨a, v, e, ea, q⟩ => ?_)
  subst e
  refine ⟨a, D, cdD, rfl, ea, X.T, kD, X.self, X.sup, X.ve, _, pss_one (ps_ost (pe_var (i := 0) rfl (.inl (S.par _ (by simp))) hd1 hc1) (pe_var (i := 1) rfl (.inl (S.par _ (by simp))) hd2 hc2) rfl), ?_⟩
  exact ⟨v, rfl, .ref a, rfl, a, D, rfl, X.T, hno, .inl ⟨ea, fun dx n ne => q dx n ne⟩⟩
theorem fok_exc2 (S : NdefX.NScope [ar.arg, x1, x2, "__class__"] [ar.arg, x1, x2] ["__class__"] F.scope) (hF : F.cl = [(("__class__" : Str), cc)])
    (hb : F.body = [.Expr (.Call (.Attribute (.Call (.Name "super" p0) [] [] p1) "__init__" p2) [.Constant (.str m) j p3] [] p4) p5, .Assign [.Attribute (.Name ar.arg q1) f1 q2] (.Name x1 q3) q4, .Assign [.Attribute (.Name ar.arg r1) f2 r2] (.Name x2 r3) r4])
    (hd1 : (ar.arg == ("__debug__" : Str)) = false) (hc1 : (ar.arg == ("__classdict__" : Str)) = false) (hd2 : (x1 == ("__debug__" : Str)) = false) (hc2 : (x1 == ("__classdict__" : Str)) = false) (hd3 : (x2 == ("__debug__" : Str)) = false) (hc3 : (x2 == ("__classdict__" : Str)) = false)
    (hks : F.scope.names.lookup ("super" : Str) = some .globalImplicit) (kf : K.lookup f = some ⟨oc, od, .func (F.fd doc pm ctv), osl⟩) (hp : (F.params.posonlyargs ++ F.params.args).head? = some ar)
    (kcell : K.lookup cc = some ⟨cl, cld, .cell (some (.ref D)), csl⟩) (kcode : K.lookup F.c = some ⟨ccl, cdd, .fields vs0, ccs⟩) (hvs : vs0[2]? = some (.str file tf)) (hcd : codeIn K (.ref F.c) F.qual = true) (hfile : ((P.main.file : Str) == file) = true)
    (X : XCls K D f) (hno : findIn K (.ref D) f1 = some none) (hno2 : findIn K (.ref D) f2 = some none) (hsup : mg "super" = none) (htop : (P.main.scope.names.lookup ("super" : Str)).isSome = false) (hst : nsIn K cStatics "thirdparty.any" = some none)
    (he : ∀ env : Env, eval (.Call (.Attribute (.Call (.Name "super" p0) [] [] p1) "__init__" p2) [.Constant (.str m) j p3] [] p4) env = (do
      let ov ← attributeBase (.Call (.Name "super" p0) [] [] p1) "__init__" env (eval (.Call (.Name "super" p0) [] [] p1) env)
      standAt p2.atName
      let (f, first) ← holding [ov] (getMethod ov "__init__" pl)
      callWith p4 f first (backTo p4 (starEach [.Constant (.str m) j p3] env)) [])) :
    FnOk P w K mg base CXt (k + 1) f (F.fd doc pm ctv) [ar.arg, x1, x2] (spX2 D f1 f2) := by
  obtain ⟨cdD, kD⟩ := X.cls
  refine fok_super (N := [ar.arg, x1, x2, "__class__"]) (rest := _) S hF hb hks kf hp rfl (S.par _ (by simp)) kcell kcode hvs hcd hfile kD hsup htop hst he (fun vs H Q E ⟨a, v1, v2, e, _⟩ => by rw [e]; rfl) (fun A outer s H vs Q E hr ⟨a, v1, v2, e, ea, q⟩ => ?_)
  subst e
  refine ⟨a, D, cdD, rfl, ea, X.T, kD, X.self, X.sup, X.ve, _, pss_cons (ps_ost (pe_var (i := 0) rfl (.inl (S.par _ (by simp))) hd1 hc1) (pe_var (i := 1) rfl (.inl (S.par _ (by simp))) hd2 hc2) rfl) (pss_one (ps_ost (pe_var (i := 0) rfl (.inl (S.par _ (by simp))) hd1 hc1) (pe_var (i := 2) rfl (.inl (S.par _ (by simp))) hd3 hc3) rfl)), ?_⟩
  refine ⟨v1, rfl, .ref a, rfl, a, D, rfl, X.T, hno, .inl ⟨ea, fun dx n ne => ?_⟩⟩
  refine ⟨v2, rfl, .ref a, rfl, a, D, rfl, X.T, hno2, .inr ⟨dx, [(f1, v1)], upd_same, ?_, by show 1 ≤ 900; omega, q dx n ne⟩⟩
  rw [upd_ne ne, upd_same]
end
/-! raising -/
section
variable {Y : YC} {Γ : List Cell} {k : Ks} {te t1 t2 : TE} {Cx : Addr} {f1 f2 : Str} {Wt : WX}
theorem z_raise0 (hE : Y.E = WE Wt) (h : Y.kx ⟨Cx, none⟩ Γ) : Z Y (fun _ σ H => (fun (_ : L2.St) (H : Hp) (Q : XK) => Q (.ref Cx) none H) σ H fun cls d H' => Wt cls d σ H') Γ k := fun e F σ H D hM s c => by
  have := s.1 ⟨Cx, none⟩ none F σ H Γ h s.2 rfl
  rw [hE] at this
  exact this
theorem z_raise1 (hE : Y.E = WE Wt) (h : R Y te Γ dInt fun n => Y.kx ⟨Cx, some [(f1, .int n)]⟩ Γ) : Z Y (fun _ σ H => tMkO Cx (spX1 Cx f1) [] (tCons te tNil) σ H fun cls d H' => Wt cls d σ H') Γ k := fun e F σ H D hM s c => h e F σ H s _ fun v F1 H1 n kn g r => by
  cases (show v = .int n from r)
  refine ⟨by show 1 ≤ 1000; omega, fun a ha => ⟨a, .int n, rfl, upd_same, fun d hd hda => ⟨rfl, d, [(f1, .int n)], upd_same, by rw [upd_ne hda, upd_same], ?_, ?_⟩⟩⟩
  · rw [upd_ne hda] at hd
    exact hd
  · rw [upd_ne hda] at hd
    have e1 : upd (del (upd (upd (upd H1 a (exo a Cx none)) d (exd d [(f1, .int n)])) a (exo a Cx (some d))) a) d (.xd [(f1, .int n)]) = upd H1 d (.xd [(f1, .int n)]) := by
      funext b
      by_cases hb : b = d
      · subst hb; rw [upd_same, upd_same]
      · rw [upd_ne hb, upd_ne hb]
        by_cases hb2 : b = a
        · subst hb2; rw [del_same, ha]
        · rw [del_ne hb2, upd_ne hb2, upd_ne hb, upd_ne hb2]
    rw [e1]
    have := s.1 ⟨Cx, some [(f1, .int n)]⟩ (some d) (upd F1 d (.xd [(f1, .int n)])) σ (upd H1 d (.xd [(f1, .int n)])) Γ kn ((s.grow g).grow (g.base.lay hd)).2 ⟨_, rfl, upd_same⟩
    rw [hE] at this
    exact this
theorem z_raise2 (hE : Y.E = WE Wt) (h : R Y t1 Γ dInt fun n1 => R Y t2 Γ dInt fun n2 => Y.kx ⟨Cx, some [(f2, .int n2), (f1, .int n1)]⟩ Γ) : Z Y (fun _ σ H => tMkO Cx (spX2 Cx f1 f2) [] (tCons t1 (tCons t2 tNil)) σ H fun cls d H' => Wt cls d σ H') Γ k := fun e F σ H D hM s c => h e F σ H s _ fun v F1 H1 n h2 g r => h2 e F1 σ H1 (s.grow g) _ fun v2 F2 H2 n2 kn g2 r2 => by
  cases (show v = .int n from r)
  cases (show v2 = .int n2 from r2)
  refine ⟨by show 2 ≤ 1000; omega, fun a ha => ⟨a, .int n, .int n2, rfl, upd_same, fun d hd hda => ⟨rfl, d, [(f2, .int n2), (f1, .int n)], ?_, upd_same, ?_, ?_⟩⟩⟩
  · rw [upd_ne (Ne.symm hda), upd_same]
  · rw [upd_ne hda] at hd
    exact hd
  · rw [upd_ne hda] at hd
    have e1 : upd (del (upd (upd (upd (upd H2 a (exo a Cx none)) d (exd d [(f1, .int n)])) a (exo a Cx (some d))) d (exd d [(f2, .int n2), (f1, .int n)])) a) d (.xd [(f2, .int n2), (f1, .int n)]) = upd H2 d (.xd [(f2, .int n2), (f1, .int n)]) := by
      funext b
      by_cases hb : b = d
      · subst hb; rw [upd_same, upd_same]
      · rw [upd_ne hb, upd_ne hb]
        by_cases hb2 : b = a
        · subst hb2; rw [del_same, ha]
        · rw [del_ne hb2, upd_ne hb, upd_ne hb2, upd_ne hb, upd_ne hb2]
    rw [e1]
    have := s.1 ⟨Cx, some [(f2, .int n2), (f1, .int n)]⟩ (some d) (upd F2 d (.xd [(f2, .int n2), (f1, .int n)])) σ (upd H2 d (.xd [(f2, .int n2), (f1, .int n)])) Γ kn (((s.grow g).grow g2).grow (g2.base.lay hd)).2 ⟨_, rfl, upd_same⟩
    rw [hE] at this
    exact this
end
end G

/-! E3: try .. except X as n; isinstance of what was caught; its attributes. -/
namespace G
open PySem PySem.Spec PyProof.Rows L2 PySem.W
/-- the caught exception at a, its dict d -/
@[reducible] def dExn (a : Addr) (d : Option Addr) : Dat Exn where
  rep _ F v x := v = .ref a ∧ x.at F d
  mono := fun {C F F' v x} s ⟨e, h⟩ => ⟨e, by
    cases d with
    | none => exact h
    | some dd => obtain ⟨fs, e1, e2⟩ := h; exact ⟨fs, e1, s _ _ e2⟩⟩
/-- isinstance(e, c), e the exception that the suite holds -/
def rIsX (K : Frag) (a : Addr) (cls : Value) (d : Option Addr) : List V → Hp → VK → Prop := fun xs H Q => ∃ (D : Addr) (c : V) (cv : Value) (b : Bool), cls = .ref D ∧ ExcC K D ∧ xs = [.ref a, c] ∧ (∀ u, RelV c u → u = cv) ∧ kitOne K (.ref D) cv = some b ∧
  (∀ dd, d = some dd → ∃ fs, H dd = some (.xd fs)) ∧ Q (.bl b) H
theorem call_isX {X : Cx} {a : Addr} {cls : Value} {d : Option Addr} {oe : Obj} {pn : List (Addr × Obj)} (hz : Zc cls d oe) (hf : ∃ vs, oe.data = .fields vs) : CallR (X.suite a ((a, oe) :: pn)) (.builtin "isinstance") (rIsX X.K a cls d) := by
  intro pins s σ H xs us Q I r h
  obtain ⟨D, c, cv, b, rfl, C, rfl, hcv, e, hd, q⟩ := h
  cases r with
  | cons rx rr =>
    cases rr with
    | cons rt rr =>
      cases rr
      cases rx
      have ec := hcv _ rt
      subst ec
      obtain ⟨hget, _⟩ := I.pin (a, oe) (List.mem_append.mpr (.inl List.mem_cons_self))
      obtain ⟨vs, hv⟩ := hf
      obtain ⟨od, J⟩ : ∃ od, InstAt s.heap a oe D od := by
        obtain ⟨oc, odt, oda, osl⟩ := oe
        obtain ⟨h1, h2⟩ := hz
        dsimp only at h1 h2 hv
        subst h1 h2 hv
        cases odt with
        | none => exact ⟨none, hget, rfl, rfl, trivial⟩
        | some dd =>
          obtain ⟨fs, hfs⟩ := hd dd rfl
          have ok : ObjOk X.prog X.w H s.heap dd (.xd fs) := I.hok dd _ hfs
          obtain ⟨mA, ⟨o, es, ep, ho, _⟩, _⟩ := ok
          exact ⟨some o, hget, rfl, rfl, ho⟩
      have hcl : (clsIn X.K D).isSome = true := by obtain ⟨cd, hc, _⟩ := any_some C.hd; rw [hc]; rfl
      exact kia_one (kitx_exc hcl C.hg C.hk C.hs C.ha C.hn C.ht C.hm) I.kIn J e (fun z => nomatch z) fun tk => ⟨.bl b, H, I.kept (t' := tk) fun _ _ z => z, rfl, q⟩
section
variable {Y : YC} {Γ : List Cell} {k : Ks} {te : TE} {a Cx : Addr} {d : Option Addr} {x : Exn} {i : Nat}
theorem w_isX {cls : Value} {c : V} {cv : Value} {b : Bool} {kx : Bool → Prop} (hi : Γ[i]? = some (.val (dExn a d) x)) (hc : cls = .ref x.cls) (C : ExcC Y.K x.cls) (hv : ∀ u, RelV c u → u = cv) (hk : kitOne Y.K (.ref x.cls) cv = some b) (h : kx b) :
    W Y (tCB (rIsX Y.K a cls d) (tCons (tVar i) (tCons (tC c) tNil))) Γ dBool kx := fun e F σ H s Q q => by
  obtain ⟨v, e1, e2, r⟩ := s.val hi
  subst e2
  refine ⟨.ref a, e1, x.cls, c, cv, b, hc, C, rfl, hv, hk, fun dd hd => ?_, q _ F H b h s.base rfl⟩
  subst hd
  obtain ⟨fs, _, e3⟩ := r
  exact ⟨fs, s.fh _ _ e3⟩
theorem w_xf {cls : Value} {f : Str} {n : Int} {fs : List (Str × V)} {kx : Int → Prop} (hi : Γ[i]? = some (.val (dExn a d) x)) (hc : cls = .ref x.cls) (hx : x.cls = Cx) (hf : x.fs = some fs) (hl : fs.lookup f = some (.int n)) (h : kx n) :
    W Y (tXf a cls d Cx f (tVar i)) Γ dInt kx := fun e F σ H s Q q => by
  obtain ⟨v, e1, e2, r⟩ := s.val hi
  subst e2
  refine ⟨.ref a, e1, rfl, by rw [hc, hx], ?_⟩
  cases d with
  | none => rw [show x.fs = none from r] at hf; cases hf
  | some dd =>
    obtain ⟨fs', e3, e4⟩ := r
    rw [hf] at e3
    cases e3
    exact ⟨dd, fs, .int n, rfl, s.fh _ _ e4, hl, q _ F H n h s.base rfl⟩
theorem State.noAt {e : En} {F : Hp} {σ : L2.St} {H : Hp} (s : State Y e F σ H Γ) (i : Nat) : State Y e F (σ.set i none) H (Γ.set i .no) := by
  cases q : Γ[i]? with
  | some c => exact s.forget q
  | none =>
    have h1 : Γ.length ≤ i := List.getElem?_eq_none_iff.mp q
    have h2 : σ.length ≤ i := by rw [s.len]; exact h1
    rw [List.set_eq_of_length_le h1, List.set_eq_of_length_le h2]
    exact s
theorem Cont.at {e : En} {D : Ends} {E : L2.St → XK} {kb : Exn → List Cell → Prop} (hx : XOk Y e) (c : Cont Y e k D) : Cont ⟨Y.g, E, kb⟩ e k D :=
  ⟨fun F σ H Γ q s => c.nx F σ H Γ q ⟨hx, s.2⟩, c.rt, fun F σ H Γ q s => c.bk F σ H Γ q ⟨hx, s.2⟩, fun F σ H Γ q s => c.ct F σ H Γ q ⟨hx, s.2⟩⟩
/-- try: body; except c as the name at i: suite -/
theorem z_tryAs {tb : WX → TS} {ts : Addr → Value → Option Addr → TS} {c : Value} {Wout : WX} (kb : Exn → List Cell → Prop) (hE : Y.E = WE Wout) (hb : ∀ W : WX, Z ⟨Y.g, WE W, kb⟩ (tb W) Γ k)
    (hx : ∀ x Γ', kb x Γ' → ∃ b, exmOne Y.K (.ref x.cls) c = some b ∧
      (b = true → (∃ c0, Γ'[i]? = some c0) ∧ ∀ a d, Z Y (ts a (.ref x.cls) d) (Γ'.set i (.val (dExn a d) x)) { nx := fun Γ2 => k.nx (Γ2.set i .no), rt := k.rt, bk := fun Γ2 => k.bk (Γ2.set i .no), ct := fun Γ2 => k.ct (Γ2.set i .no) }) ∧ (b = false → Y.kx x Γ')) :
    Z Y (fun D σ H => tb (wAs Y.K c i ts Wout D) D σ H) Γ k := fun e F σ H D hM s ct => by
  refine hb _ e F σ H D hM ⟨fun x d F' σ' H' Γ' kbx st hd => ?_, s.2⟩ (ct.at s.1)
  obtain ⟨b, hm, h1, h2⟩ := hx x Γ' kbx
  refine ⟨b, hm, fun hb1 a ha => ?_, fun hb0 => ?_⟩
  · obtain ⟨⟨c0, hi⟩, hz⟩ := h1 hb1
    have st1 : State Y e F' σ' H' Γ' := ⟨s.1, st⟩
    refine hz a d e F' _ H' _ hM (st1.set (c' := .val (dExn a d) x) (L' := []) hi st1.base ⟨rfl, _, rfl, rfl, hd⟩) ⟨fun F3 σ3 H3 Γ3 q s3 => ct.nx F3 _ H3 _ q (s3.noAt i), ct.rt, fun F3 σ3 H3 Γ3 q s3 => ct.bk F3 _ H3 _ q (s3.noAt i), fun F3 σ3 H3 Γ3 q s3 => ct.ct F3 _ H3 _ q (s3.noAt i)⟩
  · have := s.1 x d F' σ' H' Γ' (h2 hb0) st hd
    rw [hE] at this
    exact this
/-- try: body; except c: suite -/
theorem z_tryOnly {tb : WX → TS} {ts : Addr → Value → Option Addr → TS} {c : Value} {Wout : WX} (kb : Exn → List Cell → Prop) (hE : Y.E = WE Wout) (hb : ∀ W : WX, Z ⟨Y.g, WE W, kb⟩ (tb W) Γ k)
    (hx : ∀ x Γ', kb x Γ' → ∃ b, exmOne Y.K (.ref x.cls) c = some b ∧ (b = true → ∀ a d, Z Y (ts a (.ref x.cls) d) Γ' k) ∧ (b = false → Y.kx x Γ')) :
    Z Y (fun D σ H => tb (wOnly Y.K c ts Wout D) D σ H) Γ k := fun e F σ H D hM s ct => by
  refine hb _ e F σ H D hM ⟨fun x d F' σ' H' Γ' kbx st hd => ?_, s.2⟩ (ct.at s.1)
  obtain ⟨b, hm, h1, h2⟩ := hx x Γ' kbx
  refine ⟨b, hm, fun hb1 a ha => ?_, fun hb0 => ?_⟩
  · exact h1 hb1 a d e F' _ H' _ hM ⟨s.1, st⟩ ct
  · have := s.1 x d F' σ' H' Γ' (h2 hb0) st hd
    rw [hE] at this
    exact this
end
end G

/-! E4: instances of own classes. -/
namespace G
open PySem PySem.Spec PyProof.Rows L2 PySem.W
/-! calls that may raise, within a try -/
section
variable {X : Cx} {CXt : CXT} {k : Nat} {f C : Addr} {fd : FuncData} {ps : List Str} {sp : Sp} {E : L2.St → XK} {x m : Str} {p pos apos : Pos} {e o : Expr} {es : List Expr} {ta : TE} {t : TA}
def tMakeS (C : Addr) (sp : Sp) (E : L2.St → XK) (t : TA) : TE := fun σ H Q => t σ H fun vs H1 => ∀ x dx, H1 x = none → H1 dx = none → dx ≠ x → sp (.ref x :: vs) (upd (upd H1 dx (.own x)) x (.ins C dx [])) (fun v H2 => v = .non ∧ Q (.ref x) H2) (E σ)
theorem run_makeS {pins : List (Addr × Obj)} {σ : L2.St} {H : Hp} {s : Shared} {Q : VK} {us : List Value} {vs : List V} {E : XK} (M : Mk X.K C f) (F : FnOk X.prog X.w X.K X.mg X.base CXt k f fd ps sp) (hr : Room (k + 1) X.A) (hb : Binds X.K fd ps [])
    (hx : PassesAt CXt X σ E) (I : Inv X pins σ H s) (r : Vals vs us)
    (h : ∀ x dx, H x = none → H dx = none → dx ≠ x → sp (.ref x :: vs) (upd (upd H dx (.own x)) x (.ins C dx [])) (fun v H2 => v = .non ∧ Q (.ref x) H2) E) :
    wpAny (model X.prog X.w) X.A (call (.ref C) us) (EP X pins σ Q) X.xe s := by
  have hq := h (s.heap.objs.size + 1) s.heap.objs.size (I.hok.fresh (Nat.le_succ _)) (I.hok.fresh (Nat.le_refl _)) (Nat.ne_of_lt (Nat.lt_succ_self _))
  have I2 := Inv.made (C := C) I
  have r2 : Vals (V.ref (s.heap.objs.size + 1) :: vs) (Value.ref (s.heap.objs.size + 1) :: us) := .cons rfl r
  have hl : (Value.ref (s.heap.objs.size + 1) :: us).length = ps.length := by
    have e := r2.length
    rw [F.len _ _ _ _ hq] at e
    exact e.symm
  have hb2 := hb _ (Value.ref (s.heap.objs.size + 1) :: us) I2.kIn (by rw [List.append_nil]; exact hl)
  rw [List.append_nil] at hb2
  refine wpAny_call (make_map (f := f) I.kIn M.makes M.init (beq_iff_eq.mp M.fn) (codeAny_mono (F.run _ X.stack _ _ ⟨Value.ref (s.heap.objs.size + 1) :: us, []⟩ (Value.ref (s.heap.objs.size + 1) :: us) _ _ E (hr.make C us [])
    (I2.env0.make C us []) hb2 r2 hq) fun r s' hq' => ?_))
  cases r with
  | error e => exact hx pins _ _ e s' I2 hq'
  | ok fl =>
    cases fl with
    | ret u =>
      obtain ⟨v, H', J, rv, ev, q⟩ := I2.after hq'
      subst ev
      exact ⟨rv, .ref (s.heap.objs.size + 1), H', J, rfl, q⟩
    | next => exact False.elim hq'
    | brk => exact False.elim hq'
    | cont => exact False.elim hq'
theorem pe_makeS (M : Mk X.K C f) (F : FnOk X.prog X.w X.K X.mg X.base CXt k f fd ps sp) (hr : Room (k + 1) X.A) (hg : Gl X x) (hm : X.mg x = some (.ref C)) (hb : Binds X.K fd ps []) (hx : ∀ σ, PassesAt CXt X σ (E σ))
    (ha : PA X (e :: es) t) (hdb : (x == ("__debug__" : Str)) = false := by decide) (he : starEach (e :: es) X.env = (false, eval e X.env) :: starEach es X.env := by rfl) (hpl : (backTo pos (starEach es X.env)).any (·.1) = false := by rfl) :
    PE X (.Call (.Name x p) (e :: es) [] pos) (tMakeS C sp E t) := by
  refine ⟨fun pins s σ H Q I h => ?_⟩
  refine wpAny_Call_Name_kw (ld_glob I hg hm ?_ hdb)
  refine PySem.W.callWith_K (h₀ := X.base) I.ok.mod.kin M.kp (thn (ha.run pos pins s σ H _ I h) fun us s1 ⟨vs, H1, I1, r, q⟩ => ⟨I1.kIn, ?_⟩) he hpl
  exact run_makeS M F hr hb (hx σ) I1 r q
end
/-! data -/
structure Ob1 (α : Type) where
  a : α
  deriving DecidableEq
structure Ob2 (α β : Type) where
  a : α
  b : β
  deriving DecidableEq
section
variable {α β : Type} [d1 : Dat α] [d2 : Dat β] (C0 : Addr) (f1 f2 : Str)
@[reducible] def dOb1 : Dat (Ob1 α) := ⟨fun C F v x => ∃ p dx v1, v = .ref p ∧ F p = some (.ins C0 dx [(f1, v1)]) ∧ d1.rep C F v1 x.a, fun s ⟨p, dx, v1, e, h, r1⟩ => ⟨p, dx, v1, e, s _ _ h, d1.mono s r1⟩⟩
@[reducible] def dOb2 : Dat (Ob2 α β) := ⟨fun C F v x => ∃ p dx v1 v2, v = .ref p ∧ F p = some (.ins C0 dx [(f1, v1), (f2, v2)]) ∧ d1.rep C F v1 x.a ∧ d2.rep C F v2 x.b,
  fun s ⟨p, dx, v1, v2, e, h, r1, r2⟩ => ⟨p, dx, v1, v2, e, s _ _ h, d1.mono s r1, d2.mono s r2⟩⟩
@[reducible] def oOb1 : @OD (Ob1 α) (dOb1 C0 f1) := @OD.mk (Ob1 α) (dOb1 C0 f1)
  (fun C F v x L => ∃ p dx v1, v = .ref p ∧ L = [(p, .ins C0 dx [(f1, v1)])] ∧ d1.rep C F v1 x.a)
  (fun s ⟨p, dx, v1, e, h, r1⟩ => ⟨p, dx, v1, e, h, d1.mono s r1⟩)
  (fun ⟨p, dx, v1, e, h, r1⟩ s k => ⟨p, dx, v1, e, k (p, .ins C0 dx [(f1, v1)]) (by rw [h]; exact List.mem_cons_self), d1.mono s r1⟩)
@[reducible] def oOb2 : @OD (Ob2 α β) (dOb2 C0 f1 f2) := @OD.mk (Ob2 α β) (dOb2 C0 f1 f2)
  (fun C F v x L => ∃ p dx v1 v2, v = .ref p ∧ L = [(p, .ins C0 dx [(f1, v1), (f2, v2)])] ∧ d1.rep C F v1 x.a ∧ d2.rep C F v2 x.b)
  (fun s ⟨p, dx, v1, v2, e, h, r1, r2⟩ => ⟨p, dx, v1, v2, e, h, d1.mono s r1, d2.mono s r2⟩)
  (fun ⟨p, dx, v1, v2, e, h, r1, r2⟩ s k => ⟨p, dx, v1, v2, e, k (p, .ins C0 dx [(f1, v1), (f2, v2)]) (by rw [h]; exact List.mem_cons_self), d1.mono s r1, d2.mono s r2⟩)
end
/-- an instance without attributes yet -/
structure Ob0 where
  u : Unit
@[reducible] def dOb0 (C0 : Addr) : Dat Ob0 := ⟨fun _ F v _ => ∃ p dx, v = .ref p ∧ F p = some (.ins C0 dx []), fun s ⟨p, dx, e, h⟩ => ⟨p, dx, e, s _ _ h⟩⟩
@[reducible] def oOb0 (C0 : Addr) : @OD Ob0 (dOb0 C0) := @OD.mk Ob0 (dOb0 C0)
  (fun _ _ v _ L => ∃ p dx, v = .ref p ∧ L = [(p, .ins C0 dx [])])
  (fun _ h => h)
  (fun ⟨p, dx, e, h⟩ _ k => ⟨p, dx, e, k (p, .ins C0 dx []) (by rw [h]; exact List.mem_cons_self)⟩)
/-- data that are instances of the class at C0 with these attributes -/
structure IsI {α : Type} (d : Dat α) (C0 : Addr) (ns : List Str) : Prop where
  ins : ∀ {C : GCtx} {F : Hp} {v : V} {x : α}, d.rep C F v x → ∃ p dx fs, v = .ref p ∧ F p = some (.ins C0 dx fs) ∧ ∀ f, f ∉ ns → fs.lookup f = none
/-- its attribute f -/
structure IsF {α β : Type} (d : Dat α) (C0 : Addr) (f : Str) (d2 : Dat β) (g : α → β) : Prop where
  fld : ∀ {C : GCtx} {F : Hp} {v : V} {x : α}, d.rep C F v x → ∃ p dx fs v2, v = .ref p ∧ F p = some (.ins C0 dx fs) ∧ fs.lookup f = some v2 ∧ d2.rep C F v2 (g x)
theorem isI0 {C0 : Addr} : IsI (dOb0 C0) C0 [] := ⟨fun ⟨p, dx, e, h⟩ => ⟨p, dx, [], e, h, fun _ _ => rfl⟩⟩
section
variable {α β : Type} [d1 : Dat α] [d2 : Dat β] {C0 : Addr} {f1 f2 : Str}
theorem isI1 : IsI (dOb1 (α := α) C0 f1) C0 [f1] := ⟨fun ⟨p, dx, v1, e, h, _⟩ => ⟨p, dx, _, e, h, fun f hf => by
  rw [List.lookup_cons, beq_eq_false_iff_ne.mpr (fun z => hf (by rw [z]; simp))]; rfl⟩⟩
theorem isI2 : IsI (dOb2 (α := α) (β := β) C0 f1 f2) C0 [f1, f2] := ⟨fun ⟨p, dx, v1, v2, e, h, _⟩ => ⟨p, dx, _, e, h, fun f hf => by
  rw [List.lookup_cons, beq_eq_false_iff_ne.mpr (fun z => hf (by rw [z]; simp)), List.lookup_cons, beq_eq_false_iff_ne.mpr (fun z => hf (by rw [z]; simp))]; rfl⟩⟩
theorem isF1 : IsF (dOb1 (α := α) C0 f1) C0 f1 d1 Ob1.a := ⟨fun ⟨p, dx, v1, e, h, r⟩ => ⟨p, dx, _, v1, e, h, by rw [List.lookup_cons, beq_self_eq_true], r⟩⟩
theorem isF2a : IsF (dOb2 (α := α) (β := β) C0 f1 f2) C0 f1 d1 Ob2.a := ⟨fun ⟨p, dx, v1, v2, e, h, r, _⟩ => ⟨p, dx, _, v1, e, h, by rw [List.lookup_cons, beq_self_eq_true], r⟩⟩
theorem isF2b (hn : (f2 == f1) = false) : IsF (dOb2 (α := α) (β := β) C0 f1 f2) C0 f2 d2 Ob2.b := ⟨fun ⟨p, dx, v1, v2, e, h, _, r⟩ => ⟨p, dx, _, v2, e, h, by rw [List.lookup_cons, hn, List.lookup_cons, beq_self_eq_true], r⟩⟩
end
section
variable {Y : YC} {Γ : List Cell} {k : Ks} {te : TE} {tl : TA} {α β : Type} {d : Dat α} {d2 : Dat β} {C0 : Addr} {f : Str} {ns : List Str}
theorem w_fld {g : α → β} {kx : β → Prop} (hf : IsF d C0 f d2 g) (c : Cls Y.K C0) (n : NoAttr Y.K C0 f) (h : W Y te Γ d fun x => kx (g x)) : W Y (tFld Y.K te f) Γ d2 kx := fun e F σ H s Q q => h e F σ H s _ fun v F' H' x kx' gr r => by
  obtain ⟨p, dx, fs, v2, e1, e2, e3, r2⟩ := hf.fld r
  exact ⟨p, C0, dx, fs, v2, e1, gr.fh _ _ e2, c, n, e3, q v2 F' H' _ kx' gr r2⟩
theorem r_fld {g : α → β} {kx : β → Prop} (hf : IsF d C0 f d2 g) (c : Cls Y.K C0) (n : NoAttr Y.K C0 f) (h : R Y te Γ d fun x => kx (g x)) : R Y (tFld Y.K te f) Γ d2 kx := fun e F σ H s Q q => h e F σ H s _ fun v F' H' x kx' gr r => by
  obtain ⟨p, dx, fs, v2, e1, e2, e3, r2⟩ := hf.fld r
  exact ⟨p, C0, dx, fs, v2, e1, e2, c, n, e3, q v2 F' H' _ kx' gr r2⟩
theorem w_con {kx : Int → Prop} {n : Int} {u : Value} (hf : IsI d C0 ns) (c : Cls Y.K C0) (k0 : Con Y.K C0 f (.int n) u) (hn : f ∉ ns) (h : R Y te Γ d fun _ => kx n) : W Y (tCon Y.K te f) Γ dInt kx := fun e F σ H s Q q => h e F σ H s _ fun v F' H' x kx' gr r => by
  obtain ⟨p, dx, fs, e1, e2, e3⟩ := hf.ins r
  exact ⟨p, C0, dx, fs, .int n, u, e1, e2, c, k0, e3 f hn, q _ F' H' n kx' gr rfl⟩
/-! stores within __init__ -/
theorem z_fld1 {d1 : Dat β} {i : Nat} {pin : Option V} {x : Ob0} (hi : Γ[i]? = some (.own (dOb0 C0) (oOb0 C0) pin x)) (c : Cls Y.K C0) (n : NoAttr Y.K C0 f) (h : W Y te Γ d1 fun y => k.nx (Γ.set i (.own (dOb1 C0 f) (oOb1 C0 f) pin ⟨y⟩))) :
    Z Y (sFld Y.K (tVar i) te f) Γ k := fun e F σ H D hM s ct => h e F σ H s _ fun v F' H' y ky g r => by
  have st := s.grow g
  obtain ⟨L, kw, sl⟩ := st.2
  obtain ⟨o, L1, Li, L2, e1, e2, ⟨v0, rfl, hp, p, dx, rfl, rfl⟩, f2⟩ := sl.get hi
  subst e2
  have hH : H' p = some (.ins C0 dx []) := (kw.ow (p, .ins C0 dx []) (by simp)).2.1
  refine ⟨.ref p, e1, p, C0, dx, [], rfl, hH, c, n, by decide, ct.nx F' σ _ _ ky ⟨s.1, L1 ++ [(p, .ins C0 dx [(f, v)])] ++ L2, ?_, ?_⟩⟩
  · exact (kw.front.put (o' := .ins C0 dx [(f, v)]) (fun _ z => by cases z)).back (Li := [(p, .ins C0 dx [(f, v)])])
  · have q := f2 F' (some (.ref p)) (.own (dOb1 C0 f) (oOb1 C0 f) pin ⟨y⟩) [(p, .ins C0 dx [(f, v)])] (Same.refl _) ⟨.ref p, rfl, hp, p, dx, v, rfl, rfl, r⟩
    have z : σ.set i (some (.ref p)) = σ := by
      apply List.ext_getElem?
      intro j
      by_cases hj : i = j
      · subst hj
        obtain ⟨hlt, hv⟩ := List.getElem?_eq_some_iff.mp e1
        rw [List.getElem?_set_self hlt, e1]
      · rw [List.getElem?_set_ne hj]
    rw [z] at q
    exact q
theorem z_fld2 {α2 : Type} {d1 : Dat β} {dn : Dat α2} {i : Nat} {pin : Option V} {f1 : Str} {x : Ob1 β} (hi : Γ[i]? = some (.own (dOb1 C0 f1) (oOb1 C0 f1) pin x)) (hne : (f1 == f) = false) (c : Cls Y.K C0) (n : NoAttr Y.K C0 f) (h : W Y te Γ dn fun y => k.nx (Γ.set i (.own (dOb2 C0 f1 f) (oOb2 C0 f1 f) pin ⟨x.a, y⟩))) :
    Z Y (sFld Y.K (tVar i) te f) Γ k := fun e F σ H D hM s ct => h e F σ H s _ fun v F' H' y ky g r => by
  have st := s.grow g
  obtain ⟨L, kw, sl⟩ := st.2
  obtain ⟨o, L1, Li, L2, e1, e2, ⟨v0, rfl, hp, p, dx, v1, rfl, rfl, r1⟩, f2⟩ := sl.get hi
  subst e2
  have hH : H' p = some (.ins C0 dx [(f1, v1)]) := (kw.ow (p, .ins C0 dx [(f1, v1)]) (by simp)).2.1
  have hp2 : putF f v [(f1, v1)] = [(f1, v1), (f, v)] := by
    unfold putF
    rw [if_neg (beq_eq_false_iff_ne.mp hne)]
    rfl
  refine ⟨.ref p, e1, p, C0, dx, [(f1, v1)], rfl, hH, c, n, by show 1 < 1000; omega, ?_⟩
  rw [hp2]
  refine ct.nx F' σ _ _ ky ⟨s.1, L1 ++ [(p, .ins C0 dx [(f1, v1), (f, v)])] ++ L2, ?_, ?_⟩
  · exact (kw.front.put (o' := .ins C0 dx [(f1, v1), (f, v)]) (fun _ z => by cases z)).back (Li := [(p, .ins C0 dx [(f1, v1), (f, v)])])
  · have q := f2 F' (some (.ref p)) (.own (dOb2 C0 f1 f) (oOb2 C0 f1 f) pin ⟨x.a, y⟩) [(p, .ins C0 dx [(f1, v1), (f, v)])] (Same.refl _) ⟨.ref p, rfl, hp, p, dx, v1, v, rfl, rfl, r1, r⟩
    have z : σ.set i (some (.ref p)) = σ := by
      apply List.ext_getElem?
      intro j
      by_cases hj : i = j
      · subst hj
        obtain ⟨hlt, hv⟩ := List.getElem?_eq_some_iff.mp e1
        rw [List.getElem?_set_self hlt, e1]
      · rw [List.getElem?_set_ne hj]
    rw [z] at q
    exact q
end
end G

/-! E5: making an instance: __init__ and the call of the class. -/
namespace G
open PySem PySem.Spec PyProof.Rows L2 PySem.W
section
variable {C : GCtx} {Y : YC} {Γ : List Cell} {α : Type} {d : Dat α}
/-- __init__ of the class at C0 over the data Γ: it leaves an instance as post says, or lets an exception out -/
def FnI (C : GCtx) {α : Type} {d : Dat α} (od : OD α) (C0 : Addr) (Γ : List Cell) (post : α → Prop) (xp : Exn → Prop) (vs : List V) (H : Hp) (Q : VK) (E : XK) : Prop :=
  ∃ p dx ws F H1, vs = .ref p :: ws ∧ H1 p = none ∧ H1 dx = none ∧ dx ≠ p ∧ H = upd (upd H1 dx (.own p)) p (.ins C0 dx []) ∧ Gr F H1 F H1 ∧ Slots C F (ws.map some) Γ [] ∧
    (∀ x F' H' L, post x → Wk ⟨F, H1, []⟩ F' L H' → od.orep C F' (.ref p) x L → Q .non H') ∧
    ∀ x d F' H', xp x → Wk ⟨F, H1, []⟩ F' [] H' → x.at F' d → E (.ref x.cls) d H'
theorem FnI.len {od : @OD α d} {C0 : Addr} {post : α → Prop} {xp : Exn → Prop} {vs : List V} {H : Hp} {Q : VK} {E : XK} (h : FnI C od C0 Γ post xp vs H Q E) : vs.length = Γ.length + 1 := by
  obtain ⟨p, dx, ws, F, H1, e, _, _, _, _, _, sl, _⟩ := h
  rw [e, List.length_cons, ← sl.len, List.length_map]
theorem FnI.mono {od : @OD α d} {C0 : Addr} {post post' : α → Prop} {xp xp' : Exn → Prop} {vs : List V} {H : Hp} {Q : VK} {E : XK} (h : FnI C od C0 Γ post xp vs H Q E) (m : ∀ x, post' x → post x) (mx : ∀ x, xp' x → xp x) : FnI C od C0 Γ post' xp' vs H Q E := by
  obtain ⟨p, dx, ws, F, H1, e, a1, a2, a3, a4, a5, sl, q, qx⟩ := h
  exact ⟨p, dx, ws, F, H1, e, a1, a2, a3, a4, a5, sl, fun x F' H' L k => q x F' H' L (m x k), fun x d F' H' k => qx x d F' H' (mx x k)⟩
def SpI (C : GCtx) (sp : Sp) {α : Type} {d : Dat α} (od : OD α) (C0 : Addr) (cs : List Cell) (post : α → Prop) (xp : Exn → Prop) : Prop := ∀ vs H Q E, FnI C od C0 cs post xp vs H Q E → sp vs H Q E
/-- C(..) -/
theorem o_makeS {od : @OD α d} {C0 : Addr} {sp : Sp} {E : L2.St → XK} {tl : TA} {kx : α → Prop} (hE : E = Y.E) (h : WA Y tl Γ fun cs => SpI Y.g sp od C0 cs kx fun x => Y.kx x Γ) : O Y (tMakeS C0 sp E tl) Γ od kx := fun e F σ H s Q q => h e F σ H s _ fun vs F1 H1 cs hc g1 sl => fun p dx hp hdx hne => by
  subst hE
  refine hc _ _ _ _ ⟨p, dx, vs, F1, H1, rfl, hp, hdx, hne, rfl, g1.base, sl, fun x F' H' L kx' g2 r => ⟨rfl, ?_⟩, fun x d F' H' kx' g2 hd => ?_⟩
  · exact q _ F' H' L x kx' (by simpa using g1.trans g2) r
  · exact s.1 x d F' σ H' Γ kx' ((s.grow g1).grow g2).2 hd
/-- .. that raises nothing -/
theorem o_make0 {od : @OD α d} {C0 : Addr} {sp : Sp} {E : XK} {tl : TA} {kx : α → Prop} (h : WA Y tl Γ fun cs => SpI Y.g sp od C0 cs kx fun _ => False) : O Y (tMake C0 sp [] E tl) Γ od kx := fun e F σ H s Q q => h e F σ H s _ fun vs F1 H1 cs hc g1 sl => fun p dx hp hdx hne => by
  rw [List.append_nil]
  refine hc _ _ _ _ ⟨p, dx, vs, F1, H1, rfl, hp, hdx, hne, rfl, g1.base, sl, fun x F' H' L kx' g2 r => ⟨rfl, ?_⟩, fun x d F' H' kx' g2 hd => kx'.elim⟩
  exact q _ F' H' L x kx' (by simpa using g1.trans g2) r
/-- THE BODY of an __init__ -/
theorem FnI.body {od : @OD α d} {C0 : Addr} {N : List Str} {post : α → Prop} {xp : Exn → Prop} {vs : List V} {H : Hp} {Q : VK} {E : XK} {t : TS} (h : FnI C od C0 Γ post xp vs H Q E)
    (hz : ∀ p, Z ⟨C, fun _ => E, fun x _ => xp x⟩ t (.own (dOb0 C0) (oOb0 C0) (some (.ref p)) ⟨()⟩ :: (Γ ++ List.replicate (N.length - (Γ.length + 1)) .no)) { nx := fun Γ' => ∃ x, Γ'[0]? = some (.own d od (some (.ref p)) x) ∧ post x, rt := fun _ _ => False, bk := fun _ => False, ct := fun _ => False }) : t { nx := fun _ H' => Q .non H', rt := Q } (L2.start N vs) H := by
  have hl := h.len
  obtain ⟨p, dx, ws, F, H1, e, hp, hdx, hne, eH, g, sl, q, qx⟩ := h
  subst e eH
  have hl2 : ws.length = Γ.length := by simpa using hl
  have k0 : Wk ⟨F, H1, []⟩ (upd F dx (.own p)) [] (upd H1 dx (.own p)) := Wk.lay g hdx
  have k1 : Wk ⟨F, H1, []⟩ (upd F dx (.own p)) [(p, .ins C0 dx [])] (upd (upd H1 dx (.own p)) p (.ins C0 dx [])) := k0.own (by rw [upd_ne (Ne.symm hne)]; exact hp) (fun _ z => by cases z)
  have st : State ⟨C, fun _ => E, fun x _ => xp x⟩ ⟨F, H1, []⟩ (upd F dx (.own p)) (L2.start N (.ref p :: ws)) (upd (upd H1 dx (.own p)) p (.ins C0 dx [])) (.own (dOb0 C0) (oOb0 C0) (some (.ref p)) ⟨()⟩ :: (Γ ++ List.replicate (N.length - (Γ.length + 1)) .no)) := by
    refine ⟨fun x d F' σ' H' Γ' k ⟨L, kw, _⟩ hd => qx x d F' H' k (kw.sub (fun _ z => nomatch z) List.nodup_nil) hd, [(p, .ins C0 dx [])], k1, ?_⟩
    unfold L2.start
    rw [List.length_cons, hl2]
    exact .cons (L := [(p, .ins C0 dx [])]) (L' := []) ⟨.ref p, rfl, fun u z => by cases z; rfl, p, dx, rfl, rfl⟩ (slots_app (sl.mono k1.ff) (slots_pad _))
  refine hz p ⟨F, H1, []⟩ _ (L2.start N (.ref p :: ws)) _ _ rfl st ⟨fun F' σ' H' Γ' hn s' => ?_, fun F' σ' H' Γ' v c L L' z => z.elim, fun _ _ _ _ z => z.elim, fun _ _ _ _ z => z.elim⟩
  obtain ⟨x, hi, px⟩ := hn
  obtain ⟨_, L, kw, sl'⟩ := s'
  obtain ⟨o, L1, Li, L2, e1, e2, ⟨v, rfl, hpin, r⟩, _⟩ := sl'.get hi
  cases hpin _ rfl
  subst e2
  refine q x F' H' Li px (kw.sub (fun p hp => by simp [hp]) ?_) r
  have n1 := kw.front.nd
  rw [List.map_append] at n1
  exact (List.nodup_append.mp n1).1
end
end G

/-! E6: methods, static methods, x in o by an own __contains__. -/
namespace G
open PySem PySem.Spec PyProof.Rows L2 PySem.W
abbrev EF : XK := fun _ _ _ => False
theorem passF {X : Cx} {P : Program} {w : World} : Passes (L2.CX P w) X EF := fun _ _ _ _ _ _ _ c => by
  obtain ⟨_, _, _, _, _, _, _, _, _, _, _, _, h⟩ := c
  exact h.elim
theorem passFS {X : Cx} {P : Program} {w : World} (σ : L2.St) : PassesAt (L2.CX P w) X σ EF := fun _ _ _ _ _ _ c => by
  obtain ⟨_, _, _, _, _, _, _, _, _, _, _, _, h⟩ := c
  exact h.elim
theorem pass0S {X : Cx} {E : XK} (σ : L2.St) : PassesAt CX0 X σ E := fun _ _ _ _ _ _ c => c.elim
section
variable {X : Cx} {CXt : CXT} {k : Nat} {f C g p : Addr} {mc : Value} {fd : FuncData} {ps : List Str} {sp : Sp} {E : L2.St → XK} {x m : Str} {apos pos : Pos} {e o : Expr} {es : List Expr} {ta : TE} {t : TA} {pl : Sem Bool}
/-- o.m(..) of an instance of the class at C; it may raise -/
def tMethE (C : Addr) (m : Str) (sp : Sp) (E : L2.St → XK) (ta : TE) (t : TA) : TE := fun σ H Q => ta σ H fun x H1 => ∃ a dx fs, x = .ref a ∧ H1 a = some (.ins C dx fs) ∧ fs.lookup m = none ∧ t σ H1 fun vs H2 => sp (x :: vs) H2 Q (E σ)
theorem pe_methE (he : PE X o ta) (c : Cls X.K C) (hm : Meth X.K C m f) (F : FnOk X.prog X.w X.K X.mg X.base CXt k f fd ps sp) (hr : Room k X.A) (hb : Binds X.K fd ps []) (hx : ∀ σ, PassesAt CXt X σ (E σ)) (ha : PA X (e :: es) t)
    (hst : starEach (e :: es) X.env = (false, eval e X.env) :: starEach es X.env := by rfl) (hpl : (backTo pos (starEach es X.env)).any (·.1) = false := by rfl)
    (ht : eval (.Call (.Attribute o m apos) (e :: es) [] pos) X.env = (do
      let ov ← eval o X.env
      standAt apos.atName
      let (f, first) ← holding [ov] (getMethod ov m pl)
      callWith pos f first (backTo pos (starEach (e :: es) X.env)) (backToKw pos (keywordEach [] X.env))) := by rfl) :
    PE X (.Call (.Attribute o m apos) (e :: es) [] pos) (tMethE C m sp E ta t) := by
  refine ⟨fun pins s σ H Q I h => ?_⟩
  refine PySem.W.methodCall_KW (pl := pl) (thn (he.run pins s σ H _ I h) fun u s1 ⟨x, H1, I1, rx, a, dx, fs, ex, ea, l, q⟩ => ?_) ht
  subst ex
  obtain rfl : u = Value.ref a := rx
  refine getmeth_ok I1 ea c hm l ?_
  refine PySem.W.callWith_K (first := [.ref a]) (h₀ := X.base) I.ok.mod.kin hm.kp (thn (ha.run pos pins s1 σ H1 _ I1 q) fun us s2 ⟨vs, H2, I2, r, q2⟩ => ⟨I2.kIn, ?_⟩) hst hpl
  exact run_fnS (us := .ref a :: us) (vs := .ref a :: vs) F hr hb (hx σ) I2 (.cons rfl r) q2
theorem pe_methE0 (he : PE X o ta) (c : Cls X.K C) (hm : Meth X.K C m f) (F : FnOk X.prog X.w X.K X.mg X.base CXt k f fd ps sp) (hr : Room k X.A) (hb : Binds X.K fd ps []) (hx : ∀ σ, PassesAt CXt X σ (E σ))
    (ht : eval (.Call (.Attribute o m apos) [] [] pos) X.env = (do
      let ov ← eval o X.env
      standAt apos.atName
      let (f, first) ← holding [ov] (getMethod ov m pl)
      callWith pos f first (backTo pos (starEach [] X.env)) (backToKw pos (keywordEach [] X.env))) := by rfl) :
    PE X (.Call (.Attribute o m apos) [] [] pos) (tMethE C m sp E ta tNil) := by
  refine ⟨fun pins s σ H Q I h => ?_⟩
  refine PySem.W.methodCall_KW (pl := pl) (thn (he.run pins s σ H _ I h) fun u s1 ⟨x, H1, I1, rx, a, dx, fs, ex, ea, l, q⟩ => ?_) ht
  subst ex
  obtain rfl : u = Value.ref a := rx
  refine getmeth_ok I1 ea c hm l ?_
  exact PySem.W.callWith_K0 (first := [.ref a]) I1.kIn hm.kp (run_fnS (us := [.ref a]) (vs := [.ref a]) F hr hb (hx σ) I1 (.cons rfl .nil) q)
/-- C.m is a static method: its record at p, its def at g -/
structure SMet (K : Frag) (C : Addr) (mc : Value) (m : Str) (p g : Addr) : Prop where
  ty : typeIn K (.ref C) = some mc
  rd : readsIn K C mc = true
  ga : specialIn K (.ref C) "__getattribute__" = some (some (.builtin "type.__getattribute__"))
  at_ : findCls K (.ref C) mc m = some (.get (.builtin "staticmethod.__get__") (.ref p) .none (.ref C))
  rc : ∃ rest, recIn K p "staticmethod" = some (.ref g :: rest)
  kp : keepIn K (.ref g) = true
def tSMethE (C : Addr) (sp : Sp) (E : L2.St → XK) (ta : TE) (t : TA) : TE := fun σ H Q => ta σ H fun x H1 => x = .ref C ∧ t σ H1 fun vs H2 => sp vs H2 Q (E σ)
theorem pe_smethE (he : PE X o ta) (c : SMet X.K C mc m p g) (F : FnOk X.prog X.w X.K X.mg X.base CXt k g fd ps sp) (hr : Room k X.A) (hb : Binds X.K fd ps []) (hx : ∀ σ, PassesAt CXt X σ (E σ)) (ha : PA X (e :: es) t)
    (hst : starEach (e :: es) X.env = (false, eval e X.env) :: starEach es X.env := by rfl) (hpl : (backTo pos (starEach es X.env)).any (·.1) = false := by rfl)
    (ht : eval (.Call (.Attribute o m apos) (e :: es) [] pos) X.env = (do
      let ov ← eval o X.env
      standAt apos.atName
      let (f, first) ← holding [ov] (getMethod ov m pl)
      callWith pos f first (backTo pos (starEach (e :: es) X.env)) (backToKw pos (keywordEach [] X.env))) := by rfl) :
    PE X (.Call (.Attribute o m apos) (e :: es) [] pos) (tSMethE C sp E ta t) := by
  refine ⟨fun pins s σ H Q I h => ?_⟩
  refine PySem.W.methodCall_KW (pl := pl) (thn (he.run pins s σ H _ I h) fun u s1 ⟨x, H1, I1, rx, ex, q⟩ => ?_) ht
  subst ex
  obtain rfl : u = Value.ref C := rx
  obtain ⟨mm, fr⟩ := I1.fr
  obtain ⟨rest, hrec⟩ := c.rc
  refine method_of_cls fr I1.ok.mod.kin c.ga (cls_sm fr I1.ok.mod.kin c.ty c.rd c.at_ hrec rfl ?_)
  refine PySem.W.callWith_K (first := []) (h₀ := X.base) I.ok.mod.kin c.kp (thn (ha.run pos pins _ σ H1 _ (I1.tok _) q) fun us s2 ⟨vs, H2, I2, r, q2⟩ => ⟨I2.kIn, ?_⟩) hst hpl
  exact run_fnS F hr hb (hx σ) I2 r q2
/-- x in o by the class's own __contains__ (a def that raises nothing) -/
def rInO (C : Addr) (sp : Sp) (b0 : Bool) : R2 := fun v x H Q => ∃ a dx fs, x = .ref a ∧ H a = some (.ins C dx fs) ∧ sp [x, v] H (fun r H' => ∃ b, r = .bl b ∧ Q (.bl (if b0 then !b else b)) H') EF
theorem inst_of {pins : List (Addr × Obj)} {σ : L2.St} {H : Hp} {s : Shared} {a dx : Addr} {fs : List (Str × V)} (I : Inv X pins σ H s) (e : H a = some (.ins C dx fs)) : ∃ ox od, InstAt s.heap a ox C od := by
  obtain ⟨mA, O, _⟩ := ins_get I.hok e
  obtain ⟨od, J, _⟩ := O.look
  exact ⟨_, _, J⟩
theorem op_inO (c : Meth X.K C "__contains__" f) (F : FnOk X.prog X.w X.K X.mg X.base CXt k f fd ps sp) (hr : Room k X.A) (hb : Binds X.K fd ps []) (hx : ∀ σ, PassesAt CXt X σ EF) : OpR X (compareOp .In) (rInO C sp false) := by
  intro pins s σ H x y v u Q I rx ry ⟨a, dx, fs, ey, ea, q⟩
  subst ey
  obtain rfl : u = Value.ref a := ry
  obtain ⟨ox, od, J⟩ := inst_of I ea
  obtain ⟨mm, fr⟩ := I.fr
  refine in_K fr I.ok.mod.kin J c.at_ c.fn (thn (run_fnS (E := fun _ => EF) (us := [.ref a, v]) (vs := [.ref a, x]) F hr hb (hx σ) I (.cons rfl (.cons rx .nil)) q) fun r s1 ⟨z, H1, I1, rz, b, ez, q1⟩ => ?_)
  subst ez
  obtain rfl : r = Value.bool b := rz
  exact wpAny_truthy_bool ⟨.bl b, H1, I1, rfl, q1⟩
theorem op_niO (c : Meth X.K C "__contains__" f) (F : FnOk X.prog X.w X.K X.mg X.base CXt k f fd ps sp) (hr : Room k X.A) (hb : Binds X.K fd ps []) (hx : ∀ σ, PassesAt CXt X σ EF) : OpR X (compareOp .NotIn) (rInO C sp true) := by
  intro pins s σ H x y v u Q I rx ry ⟨a, dx, fs, ey, ea, q⟩
  subst ey
  obtain rfl : u = Value.ref a := ry
  obtain ⟨ox, od, J⟩ := inst_of I ea
  obtain ⟨mm, fr⟩ := I.fr
  refine notIn_K fr I.ok.mod.kin J c.at_ c.fn (thn (run_fnS (E := fun _ => EF) (us := [.ref a, v]) (vs := [.ref a, x]) F hr hb (hx σ) I (.cons rfl (.cons rx .nil)) q) fun r s1 ⟨z, H1, I1, rz, b, ez, q1⟩ => ?_)
  subst ez
  obtain rfl : r = Value.bool b := rz
  exact wpAny_truthy_bool ⟨.bl (!b), H1, I1, rfl, q1⟩
end
/-! readings -/
section
variable {Y : YC} {Γ : List Cell} {ta tb : TE} {tl : TA} {α β : Type} {d : Dat α} {d2 : Dat β} {C0 : Addr} {m : Str} {ns : List Str} {sp : Sp} {E : L2.St → XK}
theorem meth_of (hI : IsI d C0 ns) (hm : m ∉ ns) {C : GCtx} {F : Hp} {v : V} {x : α} (r : d.rep C F v x) : ∃ a dx fs, v = .ref a ∧ F a = some (.ins C0 dx fs) ∧ fs.lookup m = none := by
  obtain ⟨p, dx, fs, e1, e2, e3⟩ := hI.ins r
  exact ⟨p, dx, fs, e1, e2, e3 m hm⟩
theorem w_methE {kx : β → Prop} (hE : E = Y.E) (hI : IsI d C0 ns) (hm : m ∉ ns) (h : W Y ta Γ d fun x => WA Y tl Γ fun cs => SpX Y.g sp (.val d x :: cs) (fun c => ∃ r, c = .val d2 r ∧ kx r) fun x => Y.kx x Γ) : W Y (tMethE C0 m sp E ta tl) Γ d2 kx := fun e F σ H s Q q => h e F σ H s _ fun v F1 H1 x h1 g1 r1 => by
  subst hE
  obtain ⟨a, dx, fs, e1, e2, e3⟩ := meth_of hI hm r1
  refine ⟨a, dx, fs, e1, g1.fh _ _ e2, e3, h1 e F1 σ H1 (s.grow g1) _ fun vs F2 H2 cs hc g2 sl => ?_⟩
  refine hc (v :: vs) H2 Q _ ⟨F2, g2.base, .cons (L := []) ⟨rfl, v, rfl, d.mono g2.ff r1⟩ sl, fun v' F' H' c L ⟨r, ec, kr⟩ g3 rc => ?_, fun x' d' F' H' kx' g3 hd => ?_⟩
  · subst ec
    obtain ⟨e4, v2, e5, rv⟩ := rc
    subst e4
    cases (Option.some.inj e5)
    exact q v' F' H' r kr ((g1.trans0 g2).trans0 g3) rv
  · exact s.1 x' d' F' σ H' Γ kx' (((s.grow g1).grow g2).grow g3).2 hd
theorem o_methE {od : @OD β d2} {kx : β → Prop} (hE : E = Y.E) (hI : IsI d C0 ns) (hm : m ∉ ns) (h : W Y ta Γ d fun x => WA Y tl Γ fun cs => SpX Y.g sp (.val d x :: cs) (fun c => ∃ r, c = .own d2 od none r ∧ kx r) fun x => Y.kx x Γ) : O Y (tMethE C0 m sp E ta tl) Γ od kx := fun e F σ H s Q q => h e F σ H s _ fun v F1 H1 x h1 g1 r1 => by
  subst hE
  obtain ⟨a, dx, fs, e1, e2, e3⟩ := meth_of hI hm r1
  refine ⟨a, dx, fs, e1, g1.fh _ _ e2, e3, h1 e F1 σ H1 (s.grow g1) _ fun vs F2 H2 cs hc g2 sl => ?_⟩
  refine hc (v :: vs) H2 Q _ ⟨F2, g2.base, .cons (L := []) ⟨rfl, v, rfl, d.mono g2.ff r1⟩ sl, fun v' F' H' c L ⟨r, ec, kr⟩ g3 rc => ?_, fun x' d' F' H' kx' g3 hd => ?_⟩
  · subst ec
    obtain ⟨v2, e5, _, rv⟩ := rc
    cases (Option.some.inj e5)
    exact q v' F' H' L r kr (by simpa using (g1.trans0 g2).trans g3) rv
  · exact s.1 x' d' F' σ H' Γ kx' (((s.grow g1).grow g2).grow g3).2 hd
theorem w_smethE {kx : β → Prop} (hE : E = Y.E) (h : WA Y tl Γ fun cs => SpX Y.g sp cs (fun c => ∃ r, c = .val d2 r ∧ kx r) fun x => Y.kx x Γ) : W Y (tSMethE C0 sp E (tC (.ref C0)) tl) Γ d2 kx := fun e F σ H s Q q => ⟨rfl, w_callX hE h e F σ H s Q q⟩
theorem w_inO {b0 : Bool} {kb : Bool → Prop} (hI : IsI d2 C0 ns) (h : W Y ta Γ d fun x => W Y tb Γ d2 fun y => SpX Y.g sp [.val d2 y, .val d x] (fun c => ∃ b, c = .val dBool b ∧ kb (if b0 then !b else b)) fun _ => False) : W Y (tOp (rInO C0 sp b0) ta tb) Γ dBool kb := fun e F σ H s Q q => h e F σ H s _ fun v1 F1 H1 x h1 g1 r1 => h1 e F1 σ H1 (s.grow g1) _ fun v2 F2 H2 y hc g2 r2 => by
  obtain ⟨p, dx, fs, e1, e2, _⟩ := hI.ins r2
  refine ⟨p, dx, fs, e1, g2.fh _ _ e2, ?_⟩
  refine hc [v2, v1] H2 _ _ ⟨F2, g2.base, .cons (L := []) ⟨rfl, v2, rfl, r2⟩ (.cons (L := []) ⟨rfl, v1, rfl, d.mono g2.ff r1⟩ .nil), fun v' F' H' c L ⟨b, ec, kr⟩ g3 rc => ?_, fun _ _ _ _ z => z.elim⟩
  subst ec
  obtain ⟨e4, v3, e5, rv⟩ := rc
  subst e4
  cases (Option.some.inj e5)
  cases (show v' = .bl b from rv)
  exact ⟨b, rfl, q _ F' H' _ kr ((g1.trans0 g2).trans0 g3) rfl⟩
end
end G

/-! E7: the classes' addresses; what stands within a class. -/
namespace G
open PySem PySem.Spec PyProof.Rows L2 PySem.W
def clsB : Stmt → List Stmt
  | .ClassDef (body := b) .. => b
  | _ => []
/-- where the program's classes stand (those that a text does not have: 0) -/
structure CA where
  Web : Addr := 0
  PairedWeb : Addr := 0
  Wiring : Addr := 0
  Sum : Addr := 0
  Kind : Addr := 0
  Desk : Addr := 0
  Likeness : Addr := 0
  Batch : Addr := 0
  ComesapartError : Addr := 0
  TooLarge : Addr := 0
  UnknownPlace : Addr := 0
  BadSides : Addr := 0
  UnknownSide : Addr := 0
  UnknownTie : Addr := 0
  BadLine : Addr := 0
  BadStep : Addr := 0
  Repeated : Addr := 0
  NotAPermutation : Addr := 0
  NoLinks : Addr := 0
  BadLink : Addr := 0
  BadNode : Addr := 0
  NoFacing : Addr := 0
  NotARing : Addr := 0
  UnknownPoint : Addr := 0
  NotAJoint : Addr := 0
  NotShut : Addr := 0
  NeverOpened : Addr := 0
  UnknownPair : Addr := 0
  NotATurningCycle : Addr := 0
  NotAPairing : Addr := 0
  SamePoint : Addr := 0
  UnknownTerm : Addr := 0
  BadSetting : Addr := 0
  NotSameSteps : Addr := 0
  BadMove : Addr := 0
  NoTerm : Addr := 0
  BadCut : Addr := 0
  NoSuchCut : Addr := 0
  Locked : Addr := 0
  NotOuter : Addr := 0
  Nothing : Addr := 0
  BadSigns : Addr := 0
  BadChoice : Addr := 0
  BadName : Addr := 0
  BadSign : Addr := 0
  BoundTwice : Addr := 0
  UnknownName : Addr := 0
  UsedTwice : Addr := 0
  NotUsed : Addr := 0
  NotARedex : Addr := 0
  NotBalanced : Addr := 0
  NotAnArrow : Addr := 0
  BadLabel : Addr := 0
  NameTaken : Addr := 0
  NoSuchName : Addr := 0
  StillTied : Addr := 0
  NothingToUndo : Addr := 0
  NothingToRedo : Addr := 0
/-- the exception's __init__ of the text: a function that captured its class -/
def initNF (name qual : Str) (st : Stmt) (cc c : Addr) : NdefX.NF := ⟨name, qual, defArgs st, defBody st, defScope st, [(("__class__" : Str), cc)], c⟩
end G

section
set_option maxHeartbeats 2000000
/-! E8: enumerate over a tuple. -/
namespace G
open PySem PySem.Spec PyProof.Rows L2 PySem.W
open AutoSeq1 (wpAny_loadPart')
theorem meets_enumT (l : Addr) (items : Array Value) (n : Nat) (dct : Option Addr) (sl : Array (Option Value)) :
    Meets (Builtin.«enumerate.__new__» ⟨[.type "enumerate", .ref l], []⟩) (fun _ R s => s.heap.get? l = some { cls := .type "tuple", dict := dct, data := .seq items n, slots := sl } ∧
      R (.ok (.ret (.ref (s.heap.push { cls := .type "tuple_iterator", data := .fields #[.ref l, .int 0 0] }).objs.size)))
        { s with heap := (s.heap.push { cls := .type "tuple_iterator", data := .fields #[.ref l, .int 0 0] }).push { cls := .type "enumerate", data := .fields #[.none, .bool false, .ref s.heap.objs.size, rawInt 0, .none, .none] } }) :=
  .of_wp fun prog w A R s h => by
    obtain ⟨hp, g, d, tk, os⟩ := s; obtain ⟨hl, h⟩ := h
    have hsub := sub_enumerate
    have hL : Heap.IsTuple (Shared.heap ⟨hp, g, d, tk, os⟩) l items := ⟨_, hl, rfl, n, rfl⟩
    wp_walk using wpAny_loadPart' hl
    refine wpAny_stack_any fun st => wpAny_pure ?_
    split
    · rename_i c _ _ _ _ _
      cases (c == Value.type "enumerate")
      · wp_walk using wpAny_loadPart' hl, wpAny_pyIter_tuple hL
        exact ⟨_, rfl, h⟩
      · wp_walk using wpAny_loadPart' hl, wpAny_pyIter_tuple hL
        exact ⟨_, rfl, h⟩
    · wp_walk using wpAny_loadPart' hl, wpAny_pyIter_tuple hL
      exact ⟨_, rfl, h⟩
section
variable {prog : Program} {w : World} {A : Around} {E : Value → Shared → Prop} {s : Shared}
theorem call_enumerate_tup {l : Addr} {items : Array Value} {Q : Value → Shared → Prop} (hL : s.heap.IsTuple l items)
    (h : ∀ h', IsEnum h' (s.heap.objs.size + 1) s.heap.objs.size 0 .none → h'.IsTupleIter s.heap.objs.size l 0 → h'.objs.size = s.heap.objs.size + 2 →
      (∀ b o, s.heap.get? b = some o → h'.get? b = some o) → Q (.ref (s.heap.objs.size + 1)) { s with heap := h' }) :
    wpAny (model prog w) A (call (.type "enumerate") [.ref l]) Q E s := by
  obtain ⟨⟨c, dct, dt, sl⟩, hl, hc, n, hd⟩ := hL
  replace hc : c = .type "tuple" := hc
  replace hd : dt = .seq items n := hd
  subst hc hd
  refine callType_new F.called_enumerate (by decide) (F.typeCall_enumerate_1 _) (F.newCall_enumerate_1 _) (fun obj => F.args_object_init_2 obj _) F.entry_enumerate_new
    (meets_enumT l items n dct sl) ⟨hl, ?_⟩
  have hz : (s.heap.push { cls := .type "tuple_iterator", data := .fields #[.ref l, .int 0 0] }).objs.size = s.heap.objs.size + 1 := Heap.size_push ..
  show _ ∧ _
  rw [hz]
  have he : IsEnum ((s.heap.push { cls := .type "tuple_iterator", data := .fields #[.ref l, .int 0 0] }).push
      { cls := .type "enumerate", data := .fields #[.none, .bool false, .ref s.heap.objs.size, rawInt 0, .none, .none] }) (s.heap.objs.size + 1) s.heap.objs.size 0 .none := by
    have := Heap.get?_push_size (s.heap.push { cls := .type "tuple_iterator", data := .fields #[.ref l, .int 0 0] })
      (o := { cls := .type "enumerate", data := .fields #[.none, .bool false, .ref s.heap.objs.size, rawInt 0, .none, .none] }) rfl
    rw [hz] at this; exact this
  refine ⟨⟨_, he, rfl⟩, h _ he ⟨_, Heap.get?_push_of_some _ (Heap.get?_push_size _ rfl), rfl, rfl⟩ (by rw [Heap.size_push, hz]) fun b o x => Heap.get?_push_of_some _ (Heap.get?_push_of_some _ x)⟩
end
/-- the tuple at a at each turn, each item in a new pair -/
def IteT (K : Frag) (a : Addr) : It :=
  ⟨fun i H => ∃ (xs : List V) (x : V), SqT K H a xs ∧ xs[i]? = some x, fun i H v H' => ∃ T x, v = .ref T ∧ H T = none ∧ H' = upd H T (.tup [.int (i : Nat), x]) ∧ ∀ xs, SqT K H a xs → xs[i]? = some x, fun i H => ∃ xs : List V, SqT K H a xs ∧ xs.length ≤ i⟩
theorem turn_enumT {P : Program} {w : World} {K : Frag} {elts : List Expr} {kk : Nat} {tpos : Pos} (a e it : Addr) :
    Turn P w K (.Tuple elts kk tpos) (IteT K a) [e, it] e (fun i h => (∃ old, IsEnum h e it ((i : Nat) : Int) old) ∧ h.IsTupleIter it a i ∧ e ≠ it) where
  mem := by simp
  obj := fun i h st b hb => by
    obtain ⟨⟨old, he⟩, ⟨o, ho, hc, hd⟩, _⟩ := st
    have e' : b = e ∨ b = it := by simpa using hb
    rcases e' with z | z
    · rw [z]; exact ⟨_, he, fun v q => nomatch q⟩
    · rw [z]; exact ⟨o, ho, fun v q => by rw [hd] at q; cases q⟩
  keep := fun i h h' st k => let ⟨⟨old, he⟩, hi, hne⟩ := st; ⟨⟨old, k e (by simp) _ he⟩, hi.at fun o q => k it (by simp) o q, hne⟩
  item := by
    intro X hP hw hK hc i pins s σ H E I hf st hg
    subst hP hw hK
    obtain ⟨⟨old, he⟩, hit, hne⟩ := st
    obtain ⟨xs, x, hq, hx⟩ := hg
    obtain ⟨its, rv, p, hz⟩ := I.tuple hq
    obtain ⟨u, hu, ru⟩ := rv.get hx
    have hel : e < s.heap.objs.size := Heap.lt_size he
    have hil : it < s.heap.objs.size := by obtain ⟨_, q, _⟩ := hit; exact Heap.lt_size q
    have pT : s.heap.IsTuple a its.toArray := p
    have ane : a ≠ it := fun z => by
      obtain ⟨o, q1, q2, _⟩ := hit
      obtain ⟨o2, q3, q4, _⟩ := pT
      rw [z, q1] at q3
      cases q3
      rw [q2] at q4
      exact absurd (Value.type.inj q4) (by decide)
    have ane2 : e ∉ [it, a] := fun z => by
      rcases List.mem_cons.mp z with z | z
      · exact hne z
      · rw [List.mem_singleton] at z
        obtain ⟨o2, q3, q4, _⟩ := pT
        rw [← z, show s.heap.get? e = _ from he] at q3
        cases q3
        exact absurd (Value.type.inj q4) (by decide)
    have hlt : i < its.toArray.size := by
      have := (List.getElem?_eq_some_iff.mp hu).1
      simpa using this
    have hh : X.A.in1.handled = none := I.ok.hd hc
    refine wpAny_pyNext_enum_itemD (Draws.tuple hh it a ane its.toArray) he ⟨hit, pT⟩ hlt hne ane2 fun y h' tk hy ho hst hT hsz hk => ?_
    have ey : y = u := by
      have h1 : its.toArray[i]? = some y := hy
      rw [List.getElem?_toArray, hu] at h1
      exact (Option.some.inj h1).symm
    subst ey
    refine ⟨_, rfl, wpAny_letOwnedTupleGo_enum (s := { s with heap := h', toks := tk + 1 }) ho fun h'' he' sb => ?_⟩
    have hT2 : h''.get? s.heap.objs.size = some { cls := .type "tuple", data := .seq #[.int i tk, y] } := (sb.2 _ (Nat.ne_of_gt hel)).trans hT
    have new : ObjOk X.prog X.w (upd H s.heap.objs.size (.tup [.int (i : Nat), x])) h'' s.heap.objs.size (.tup [.int (i : Nat), x]) :=
      ⟨by show 2 ≤ sizeLine; decide, [.int i tk, y], .cons ⟨_, rfl⟩ (.cons ru .nil), ⟨_, hT2, rfl, _, rfl⟩⟩
    have I1 : Inv X pins σ (upd H s.heap.objs.size (.tup [.int (i : Nat), x])) { s with heap := h'', toks := tk + 1 } :=
      I.turnedNew (ch := [e, it]) (fun b ob hb q => (sb.2 b (fun z => hb (by simp [z]))).trans (hk b ob (fun z => hb (by simp [z])) (fun z => hb (by simp [z])) q)) hf (Nat.le_refl _) new
    refine ⟨.ref s.heap.objs.size, _, I1, rfl, ⟨_, x, rfl, I.hok.fresh (Nat.le_refl _), rfl, fun ys hy => by rw [I.tuple_inj hy hq]; exact hx⟩, ⟨⟨y, ?_⟩, hst.1.at fun o q => (sb.2 it (Ne.symm hne)).trans q, hne⟩, fun b hb => ?_⟩
    · have e1 : ((i + 1 : Nat) : Int) = (i : Int) + 1 := by omega
      rw [e1]; exact he'
    · have hb' : b < s.heap.objs.size := by
        have e' : b = e ∨ b = it := by simpa using hb
        rcases e' with z | z
        · rw [z]; exact hel
        · rw [z]; exact hil
      rw [upd_ne (Nat.ne_of_lt hb')]
      exact (hf b hb).1
  done := by
    intro X hP hw hK hc i pins s σ H E I hf st hg
    subst hP hw hK
    obtain ⟨⟨old, he⟩, hit, hne⟩ := st
    obtain ⟨xs, hq, hx⟩ := hg
    obtain ⟨its, rv, p, hz⟩ := I.tuple hq
    obtain ⟨f0, f1, f2, f3, f4, f5⟩ := hf it (by simp)
    have hl := rv.length
    have pT : s.heap.IsTuple a its.toArray := p
    have ane : a ≠ it := fun z => by
      obtain ⟨o, q1, q2, _⟩ := hit
      obtain ⟨o2, q3, q4, _⟩ := pT
      rw [z, q1] at q3
      cases q3
      rw [q2] at q4
      exact absurd (Value.type.inj q4) (by decide)
    have hh : X.A.in1.handled = none := I.ok.hd hc
    have hTy : s.TypeIs (.ref e) "enumerate" := ⟨_, he, rfl⟩
    unfold pyNext
    refine wpAny_bind (wpAny_attempt (wpAny_callSpecial?_slot (name := Str.ofString "__next__") hTy F.slot_enumerate_next
      (wpAny_call_entry F.slot_enumerate_next hTy F.entry_enumerate_next ?_ (F.args_enumerate_next_1 _))))
    show wpAny _ _ (field (.ref e) 2 >>= _) _ _ _
    refine wpAny_bind (wpAny_field he rfl (x := .ref it) rfl ?_)
    refine wpAny_bind (wpAny_nextOf_tuple_end hh hit pT (by simp; omega) fun h' x he' hx' => ?_)
    obtain ⟨o, ho, hc2⟩ := hx'
    refine wpAny_bind (wpAny_isInstance (T := "StopIteration") (b := true) ⟨o, ho, hc2⟩ isSubtype_stop ?_)
    exact wpAny_pure ⟨rfl, I.turned (t' := s.toks) (fun b o hb q => he' b o hb q) f0 f1 f3 f4 f5⟩
  self := fun A i s Q E st h => let ⟨⟨_, he⟩, _⟩ := st; wpAny_pyIter_enum he h
def iEnumT (K : Frag) (ta : TA) : TI := fun σ H R => ta σ H fun vs H1 => ∃ a xs, vs = [.ref a] ∧ SqT K H1 a xs ∧ R (IteT K a) H1
theorem pi_enumT {X : Cx} {e : Expr} {ta : TA} {p pos tpos : Pos} {elts : List Expr} {kk : Nat} (hg : Gl X "enumerate") (hm : X.mg "enumerate" = none) (ha : PA X [e] ta) (hs : starEach [e] X.env = [(false, eval e X.env)] := by rfl) :
    PI X (.Tuple elts kk tpos) (.Call (.Name "enumerate" p) [e] [] pos) (iEnumT X.K ta) := by
  refine ⟨fun pins s σ H R I h => ?_⟩
  refine Call_ (ld_blt I hg hm boot_enumerate (PyProof.Rows.callWith_type1 (thn (ha.run pos pins s σ H _ I h) fun us s1 ⟨vs, H1, I1, r1, q1⟩ => ?_) hs rfl))
  obtain ⟨a, xs, ex, hq, q⟩ := q1
  subst ex
  cases r1 with
  | cons r rr =>
    cases rr
    cases r
    obtain ⟨its, rv, p', hz⟩ := I1.tuple hq
    refine call_enumerate_tup (show s1.heap.IsTuple a its.toArray from p') fun h' he hit hsz hk => wpAny_pyIter_enum he ?_
    have I2 : Inv X pins σ H1 { s1 with heap := h' } := I1.kept (t' := s1.toks) hk
    refine ⟨s1.heap.objs.size + 1, [s1.heap.objs.size + 1, s1.heap.objs.size], _, _, H1, rfl, I2, turn_enumT a (s1.heap.objs.size + 1) s1.heap.objs.size, ⟨⟨.none, he⟩, hit, Nat.succ_ne_self _⟩, fun b hb => ?_, q⟩
    have e' : b = s1.heap.objs.size + 1 ∨ b = s1.heap.objs.size := by simpa using hb
    have hle : s1.heap.objs.size ≤ b := by
      rcases e' with z | z
      · rw [z]; exact Nat.le_add_right _ _
      · rw [z]; exact Nat.le_refl _
    exact I1.fpOk hle (I1.hok.fresh hle)
end G
end

/-! E9: for i, x in enumerate(..): a statement's rule. -/
namespace G
open PySem PySem.Spec PyProof.Rows L2 PySem.W
section
variable {Y : YC} {Γ : List Cell} {te : TE} {α : Type} {d : Dat α} {k : Ks} {ts : TS} {g : TG}
def enumI {α : Type} (xs : List α) (i : Nat) : Option (Int × α) := xs[i]?.map fun x => ((i : Int), x)
theorem z_enumT (h : W Y te Γ (dTup (d := d)) fun xs => Body Y g ts (dPair (d1 := dInt) (d2 := d)) k (enumI xs.l) xs.l.length Γ) : Z Y (tFor (iEnumT Y.K (tCons te tNil)) g ts) Γ k := fun e F σ H D hM s c => h e F σ H s _ fun v F1 H1 xs ⟨I, h0, hs, hd⟩ g1 ⟨a, vs, e1, hq, r⟩ => by
  subst e1
  have s1 := s.grow g1
  obtain ⟨hx1, L1, kw1, _⟩ := id s1
  have c1 := c.into hx1 kw1
  have hqT : ∀ {H' : Hp} {F' : Hp}, Same F1 F' → Same F' H' → SqT Y.K H' a vs := fun s1 s2 => (hq.mono (s1.trans s2)).sq
  refine ⟨a, vs, rfl, hqT (Same.refl _) g1.fh, fun i m σ H => m = vs.length - i ∧ i ≤ vs.length ∧ ∃ F' Γ', State Y ⟨F1, e.H0, e.M⟩ F' σ H Γ' ∧ I i Γ', ⟨vs.length, rfl, Nat.zero_le _, F1, Γ, s1.into, h0⟩, fun i m σ H ⟨hm0, hi, F', Γ', st, hI⟩ => ?_⟩
  have hq' := hqT st.ff st.fh
  by_cases hlt : i < vs.length
  · right
    have hw : vs[i]? = some vs[i] := by simp [hlt]
    generalize vs[i] = w at hw
    obtain ⟨x, hx, rx⟩ := r.getV hw
    refine ⟨⟨vs, w, hq', hw⟩, fun σ' H' => ∃ F3 Γ3, State Y ⟨F1, e.H0, e.M⟩ F3 σ' H' Γ3 ∧ I (i + 1) Γ3, fun σ' H' ⟨F3, Γ3, s3, i3⟩ => ⟨vs.length - (i + 1), by omega, rfl, by omega, F3, Γ3, s3, i3⟩, fun x0 H' ⟨T, x', e2, hT, e3, hall⟩ => ?_⟩
    subst e2 e3
    have ex : x' = w := by
      have := hall vs hq'
      rw [hw] at this
      exact (Option.some.inj this).symm
    subst ex
    have gr : Gr F' H (upd F' T (.tup [.int (i : Nat), x'])) (upd H T (.tup [.int (i : Nat), x'])) := st.base.lay hT
    have st' := st.grow gr
    refine hs i ((i : Int), x) Γ' (by unfold enumI; rw [hx]; rfl) hI _ _ σ _ _ st' ⟨T, .int (i : Nat), x', rfl, .inl upd_same, rfl, d.mono (st.ff.trans gr.ff) rx⟩ _ fun σ2 Γ2 h2 st2 => ?_
    exact h2 ⟨F1, e.H0, e.M⟩ _ σ2 _ _ hM st2 ⟨fun F3 σ3 H3 Γ3 k3 st3 => ⟨F3, Γ3, st3, k3⟩, c1.rt, c1.nx, fun F3 σ3 H3 Γ3 k3 st3 => ⟨F3, Γ3, st3, k3⟩⟩
  · left
    have hi2 : i = xs.l.length := by rw [← r.len]; omega
    subst hi2
    exact ⟨⟨vs, hq', by rw [r.len]; exact Nat.le_refl _⟩, c1.nx F' σ H Γ' (hd Γ' hI) st⟩
theorem z_enum (h : W Y te Γ (dList (d := d)) fun xs => Body Y g ts (dPair (d1 := dInt) (d2 := d)) k (enumI xs) xs.length Γ) : Z Y (tFor (iEnum Y.K (tCons te tNil)) g ts) Γ k := fun e F σ H D hM s c => h e F σ H s _ fun v F1 H1 xs ⟨I, h0, hs, hd⟩ g1 ⟨a, vs, e1, hq, r⟩ => by
  subst e1
  have s1 := s.grow g1
  obtain ⟨hx1, L1, kw1, _⟩ := id s1
  have c1 := c.into hx1 kw1
  have hqT : ∀ {H' : Hp} {F' : Hp}, Same F1 F' → Same F' H' → SqL Y.K H' a vs := fun s1 s2 => (s1.trans s2).seq hq
  refine ⟨a, vs, rfl, hqT (Same.refl _) g1.fh, fun i m σ H => m = vs.length - i ∧ i ≤ vs.length ∧ ∃ F' Γ', State Y ⟨F1, e.H0, e.M⟩ F' σ H Γ' ∧ I i Γ', ⟨vs.length, rfl, Nat.zero_le _, F1, Γ, s1.into, h0⟩, fun i m σ H ⟨hm0, hi, F', Γ', st, hI⟩ => ?_⟩
  have hq' := hqT st.ff st.fh
  by_cases hlt : i < vs.length
  · right
    have hw : vs[i]? = some vs[i] := by simp [hlt]
    generalize vs[i] = w at hw
    obtain ⟨x, hx, rx⟩ := r.getV hw
    refine ⟨⟨vs, w, hq', hw⟩, fun σ' H' => ∃ F3 Γ3, State Y ⟨F1, e.H0, e.M⟩ F3 σ' H' Γ3 ∧ I (i + 1) Γ3, fun σ' H' ⟨F3, Γ3, s3, i3⟩ => ⟨vs.length - (i + 1), by omega, rfl, by omega, F3, Γ3, s3, i3⟩, fun x0 H' ⟨T, x', e2, hT, e3, hall⟩ => ?_⟩
    subst e2 e3
    have ex : x' = w := by
      have := hall vs hq'
      rw [hw] at this
      exact (Option.some.inj this).symm
    subst ex
    have gr : Gr F' H (upd F' T (.tup [.int (i : Nat), x'])) (upd H T (.tup [.int (i : Nat), x'])) := st.base.lay hT
    have st' := st.grow gr
    refine hs i ((i : Int), x) Γ' (by unfold enumI; rw [hx]; rfl) hI _ _ σ _ _ st' ⟨T, .int (i : Nat), x', rfl, .inl upd_same, rfl, d.mono (st.ff.trans gr.ff) rx⟩ _ fun σ2 Γ2 h2 st2 => ?_
    exact h2 ⟨F1, e.H0, e.M⟩ _ σ2 _ _ hM st2 ⟨fun F3 σ3 H3 Γ3 k3 st3 => ⟨F3, Γ3, st3, k3⟩, c1.rt, c1.nx, fun F3 σ3 H3 Γ3 k3 st3 => ⟨F3, Γ3, st3, k3⟩⟩
  · left
    have hi2 : i = xs.length := by rw [← r.len]; omega
    subst hi2
    exact ⟨⟨vs, hq', by rw [r.len]; exact Nat.le_refl _⟩, c1.nx F' σ H Γ' (hd Γ' hI) st⟩
end
end G

noncomputable section
/-! M0: the monad of the models, judgements that tie readings to models. -/
namespace G
open PySem L2

/-- the classes of the exceptions -/
inductive XC where
  | NotAPairing | NothingToUndo | NothingToRedo | BadLabel | NameTaken | NoSuchName | StillTied | ComesapartError | TooLarge | BadLine | UnknownPlace | BadSides | UnknownSide | UnknownTie | BadStep | Repeated | NotATurningCycle | UnknownPoint | UnknownPair | SamePoint | NoLinks | BadLink | BadNode | UnknownTerm | NotSameSteps | NoFacing | NotARing | NotAJoint | NotShut | BadCut | NoSuchCut | Locked | Nothing | BadName | BadSign | BadMove | NoTerm | NeverOpened | BoundTwice | UnknownName | UsedTwice | NotUsed | NotARedex | NotBalanced | NotAnArrow | NotAPermutation | BadSetting | BadSigns | BadChoice | NotOuter
  deriving DecidableEq
/-- an exception of a model: its class by name, its attributes -/
structure PX where
  cls : XC
  fs : Option (List (Str × V))
  deriving DecidableEq
/-- what a piece of a model gives: a value, an exception, or nothing that is spoken of -/
inductive M (α : Type) where
  | ok (x : α) : M α
  | exc (x : PX) : M α
  | bad : M α
instance : Monad M where
  pure := M.ok
  bind m f := match m with | .ok x => f x | .exc x => .exc x | .bad => .bad
namespace M
variable {α β γ : Type}
@[simp] theorem ok_bind (x : α) (f : α → M β) : (M.ok x >>= f) = f x := rfl
@[simp] theorem exc_bind (x : PX) (f : α → M β) : (M.exc x >>= f) = .exc x := rfl
@[simp] theorem bad_bind (f : α → M β) : ((M.bad : M α) >>= f) = .bad := rfl
@[simp] theorem pure_ok (x : α) : (pure x : M α) = .ok x := rfl
@[simp] theorem assoc (m : M α) (f : α → M β) (g : β → M γ) : ((m >>= f) >>= g) = (m >>= fun x => f x >>= g) := by cases m <;> rfl
@[simp] theorem bind_ok (m : M α) : (m >>= M.ok) = m := by cases m <;> rfl
def nb (m : M α) : Prop := m ≠ .bad
theorem nb1 {m : M α} {f : α → M β} (h : (m >>= f).nb) : m.nb := fun z => h (by rw [z]; rfl)
theorem nb2 {m : M α} {f : α → M β} {x : α} (h : (m >>= f).nb) (e : m = .ok x) : (f x).nb := fun z => h (by rw [e]; exact z)
/-- a guard: m where p holds (the choice is Classical: nothing is to be reckoned out) -/
def asrt (p : Prop) (m : M α) : M α := @ite _ p (Classical.propDecidable p) m .bad
theorem asrt_pos {p : Prop} {m : M α} (h : p) : asrt p m = m := @if_pos p (Classical.propDecidable p) h _ _ _
theorem asrt_nb {p : Prop} {m : M α} (h : (asrt p m).nb) : p := by
  unfold asrt at h
  split at h
  · assumption
  · exact absurd rfl h
def ofO : Option α → M α
  | some x => .ok x
  | none => .bad
@[simp] theorem ofO_some (x : α) : ofO (some x) = .ok x := rfl
/-- xs.append(y) -/
def push (xs : List α) (m : M α) : M (List α) := m >>= fun y => asrt (xs.length < PySem.sizeLine) (.ok (xs ++ [y]))
theorem push_ok {xs : List α} {y : α} (h : xs.length < PySem.sizeLine) : push xs (.ok y) = .ok (xs ++ [y]) := asrt_pos h
/-- xs[i] -/
def ix (xs : List α) (i : Int) : M α := ofO (atI xs i)
/-- range(n), range(a, b) -/
def range (n : Int) : M (List Int) := asrt (-(2 ^ 62) ≤ n ∧ n ≤ PySem.sizeLine) (.ok (rngL 0 n.toNat))
def range2 (a b : Int) : M (List Int) := asrt (-(2 ^ 62) ≤ a ∧ a < 2 ^ 62 ∧ -(2 ^ 62) ≤ b ∧ b < 2 ^ 62 ∧ b - a ≤ PySem.sizeLine) (.ok (rngL a (b - a).toNat))
/-- for x in xs, nothing leaves it early -/
def fold {σ : Type} (f : σ → α → M σ) : σ → List α → M σ
  | s, [] => .ok s
  | s, x :: xs => f s x >>= fun s' => fold f s' xs
theorem fold_snoc {σ : Type} (f : σ → α → M σ) (x : α) : ∀ (xs : List α) (s : σ), fold f s (xs ++ [x]) = (fold f s xs >>= fun s' => f s' x)
  | [], s => by simp [fold]
  | y :: xs, s => by simp only [List.cons_append, fold, assoc]; congr 1; funext s'; exact fold_snoc f x xs s'
end M
/-- the end of a turn -/
inductive Ct (σ ρ : Type) where
  | nx (s : σ) : Ct σ ρ
  | rt (r : ρ) : Ct σ ρ
  | bk (s : σ) : Ct σ ρ
/-- behind a loop -/
def Ct.go {σ ρ τ : Type} (c : Ct σ ρ) (r : ρ → M τ) (n : σ → M τ) : M τ := match c with | .nx s => n s | .rt x => r x | .bk s => n s
namespace M
variable {α β γ σ ρ : Type}
/-- for x in xs, with returns or breaks -/
def foldC (f : σ → α → M (Ct σ ρ)) : σ → List α → M (Ct σ ρ)
  | s, [] => .ok (.nx s)
  | s, x :: xs => f s x >>= fun c => match c with | .nx s' => foldC f s' xs | c => .ok c
/-- n turns of a while, at most -/
def loopN (c : σ → M Bool) (f : σ → M σ) : Nat → σ → M σ
  | 0, _ => .bad
  | n + 1, s => c s >>= fun b => if b then f s >>= loopN c f n else .ok s
def loopNC (c : σ → M Bool) (f : σ → M (Ct σ ρ)) : Nat → σ → M (Ct σ ρ)
  | 0, _ => .bad
  | n + 1, s => c s >>= fun b => if b then f s >>= fun t => match t with | .nx s' => loopNC c f n s' | t => .ok t else .ok (.nx s)
open Classical in
noncomputable def loop (c : σ → M Bool) (f : σ → M σ) (s : σ) : M σ := if h : ∃ n, loopN c f n s ≠ .bad then loopN c f h.choose s else .bad
open Classical in
noncomputable def loopC (c : σ → M Bool) (f : σ → M (Ct σ ρ)) (s : σ) : M (Ct σ ρ) := if h : ∃ n, loopNC c f n s ≠ .bad then loopNC c f h.choose s else .bad
theorem loopN_mono (c : σ → M Bool) (f : σ → M σ) : ∀ (n m : Nat) (s : σ), n ≤ m → loopN c f n s ≠ .bad → loopN c f m s = loopN c f n s
  | 0, _, _, _, h => absurd rfl h
  | n + 1, 0, _, hm, _ => absurd hm (by omega)
  | n + 1, m + 1, s, hm, h => by
    unfold loopN at h ⊢
    cases hc : c s with
    | bad => rfl
    | exc x => rfl
    | ok b =>
      rw [hc] at h
      simp only [ok_bind] at h ⊢
      cases b with
      | false => rfl
      | true =>
        simp only [if_true] at h ⊢
        cases hf : f s with
        | bad => rfl
        | exc x => rfl
        | ok s' =>
          rw [hf] at h
          exact loopN_mono c f n m s' (by omega) h
theorem loop_of {c : σ → M Bool} {f : σ → M σ} {s : σ} {n : Nat} (h : loopN c f n s ≠ .bad) : loop c f s = loopN c f n s := by
  have hx : ∃ n, loopN c f n s ≠ .bad := ⟨n, h⟩
  unfold loop
  rw [dif_pos hx]
  rcases Nat.le_total n hx.choose with hl | hl
  · exact loopN_mono c f _ _ s hl h
  · exact (loopN_mono c f _ _ s hl hx.choose_spec).symm
theorem loop_nb {c : σ → M Bool} {f : σ → M σ} {s : σ} (h : (loop c f s).nb) : ∃ n, loopN c f n s ≠ .bad ∧ loop c f s = loopN c f n s := by
  by_cases hx : ∃ n, loopN c f n s ≠ .bad
  · obtain ⟨n, hn⟩ := hx
    exact ⟨n, hn, loop_of hn⟩
  · exact absurd (by unfold loop; rw [dif_neg hx]) h
/-- the turn of a while -/
theorem loop_eq (c : σ → M Bool) (f : σ → M σ) (s : σ) : loop c f s = (c s >>= fun b => if b then f s >>= loop c f else .ok s) := by
  by_cases hx : ∃ n, loopN c f n s ≠ .bad
  · obtain ⟨n, hn⟩ := hx
    rw [loop_of hn]
    cases n with
    | zero => exact absurd rfl hn
    | succ n =>
      unfold loopN at hn ⊢
      cases hc : c s with
      | bad => rfl
      | exc x => rfl
      | ok b =>
        rw [hc] at hn
        simp only [ok_bind] at hn ⊢
        cases b with
        | false => rfl
        | true =>
          simp only [if_true] at hn ⊢
          cases hf : f s with
          | bad => rfl
          | exc x => rfl
          | ok s' =>
            rw [hf] at hn
            simp only [ok_bind] at hn ⊢
            exact (loop_of hn).symm
  · have e1 : loop c f s = .bad := by unfold loop; rw [dif_neg hx]
    rw [e1]
    cases hc : c s with
    | bad => rfl
    | exc x => exact absurd ⟨1, by unfold loopN; rw [hc]; exact fun z => nomatch z⟩ hx
    | ok b =>
      simp only [ok_bind]
      cases b with
      | false => exact absurd ⟨1, by unfold loopN; rw [hc]; exact fun z => nomatch z⟩ hx
      | true =>
        simp only [if_true]
        cases hf : f s with
        | bad => rfl
        | exc x => exact absurd ⟨1, by unfold loopN; rw [hc]; simp only [ok_bind, if_true]; rw [hf]; exact fun z => nomatch z⟩ hx
        | ok s' =>
          simp only [ok_bind]
          by_cases hy : ∃ n, loopN c f n s' ≠ .bad
          · obtain ⟨n, hn⟩ := hy
            exact absurd ⟨n + 1, by unfold loopN; rw [hc]; simp only [ok_bind, if_true]; rw [hf]; exact hn⟩ hx
          · unfold loop; rw [dif_neg hy]
theorem loopNC_mono (c : σ → M Bool) (f : σ → M (Ct σ ρ)) : ∀ (n m : Nat) (s : σ), n ≤ m → loopNC c f n s ≠ .bad → loopNC c f m s = loopNC c f n s
  | 0, _, _, _, h => absurd rfl h
  | n + 1, 0, _, hm, _ => absurd hm (by omega)
  | n + 1, m + 1, s, hm, h => by
    unfold loopNC at h ⊢
    cases hc : c s with
    | bad => rfl
    | exc x => rfl
    | ok b =>
      rw [hc] at h
      simp only [ok_bind] at h ⊢
      cases b with
      | false => rfl
      | true =>
        simp only [if_true] at h ⊢
        cases hf : f s with
        | bad => rfl
        | exc x => rfl
        | ok t =>
          rw [hf] at h
          cases t with
          | nx s' => exact loopNC_mono c f n m s' (by omega) h
          | rt r => rfl
          | bk s' => rfl
theorem loopC_of {c : σ → M Bool} {f : σ → M (Ct σ ρ)} {s : σ} {n : Nat} (h : loopNC c f n s ≠ .bad) : loopC c f s = loopNC c f n s := by
  have hx : ∃ n, loopNC c f n s ≠ .bad := ⟨n, h⟩
  unfold loopC
  rw [dif_pos hx]
  rcases Nat.le_total n hx.choose with hl | hl
  · exact loopNC_mono c f _ _ s hl h
  · exact (loopNC_mono c f _ _ s hl hx.choose_spec).symm
theorem loopC_nb {c : σ → M Bool} {f : σ → M (Ct σ ρ)} {s : σ} (h : (loopC c f s).nb) : ∃ n, loopNC c f n s ≠ .bad ∧ loopC c f s = loopNC c f n s := by
  by_cases hx : ∃ n, loopNC c f n s ≠ .bad
  · obtain ⟨n, hn⟩ := hx
    exact ⟨n, hn, loopC_of hn⟩
  · exact absurd (by unfold loopC; rw [dif_neg hx]) h
theorem loopC_eq (c : σ → M Bool) (f : σ → M (Ct σ ρ)) (s : σ) : loopC c f s = (c s >>= fun b => if b then f s >>= fun t => match t with | .nx s' => loopC c f s' | t => .ok t else .ok (.nx s)) := by
  by_cases hx : ∃ n, loopNC c f n s ≠ .bad
  · obtain ⟨n, hn⟩ := hx
    rw [loopC_of hn]
    cases n with
    | zero => exact absurd rfl hn
    | succ n =>
      unfold loopNC at hn ⊢
      cases hc : c s with
      | bad => rfl
      | exc x => rfl
      | ok b =>
        rw [hc] at hn
        simp only [ok_bind] at hn ⊢
        cases b with
        | false => rfl
        | true =>
          simp only [if_true] at hn ⊢
          cases hf : f s with
          | bad => rfl
          | exc x => rfl
          | ok t =>
            rw [hf] at hn
            simp only [ok_bind] at hn ⊢
            cases t with
            | nx s' => exact (loopC_of hn).symm
            | rt r => rfl
            | bk s' => rfl
  · have e1 : loopC c f s = .bad := by unfold loopC; rw [dif_neg hx]
    rw [e1]
    cases hc : c s with
    | bad => rfl
    | exc x => exact absurd ⟨1, by unfold loopNC; rw [hc]; exact fun z => nomatch z⟩ hx
    | ok b =>
      simp only [ok_bind]
      cases b with
      | false => exact absurd ⟨1, by unfold loopNC; rw [hc]; exact fun z => nomatch z⟩ hx
      | true =>
        simp only [if_true]
        cases hf : f s with
        | bad => rfl
        | exc x => exact absurd ⟨1, by unfold loopNC; rw [hc]; simp only [ok_bind, if_true]; rw [hf]; exact fun z => nomatch z⟩ hx
        | ok t =>
          simp only [ok_bind]
          cases t with
          | rt r => exact absurd ⟨1, by unfold loopNC; rw [hc]; simp only [ok_bind, if_true]; rw [hf]; exact fun z => nomatch z⟩ hx
          | bk s' => exact absurd ⟨1, by unfold loopNC; rw [hc]; simp only [ok_bind, if_true]; rw [hf]; exact fun z => nomatch z⟩ hx
          | nx s' =>
            by_cases hy : ∃ n, loopNC c f n s' ≠ .bad
            · obtain ⟨n, hn⟩ := hy
              exact absurd ⟨n + 1, by unfold loopNC; rw [hc]; simp only [ok_bind, if_true]; rw [hf]; exact hn⟩ hx
            · show _ = loopC c f s'
              unfold loopC; rw [dif_neg hy]
/-- no exception comes out of it -/
def calm : M α → M α
  | .exc _ => .bad
  | m => m
theorem calm_ok {m : M α} {x : α} : calm m = .ok x ↔ m = .ok x := by cases m <;> simp [calm]
@[simp] theorem calm_of_ok (x : α) : calm (.ok x : M α) = .ok x := rfl
theorem calm_nb {m : M α} (h : (calm m).nb) : ∃ x, m = .ok x := by
  cases m with
  | ok x => exact ⟨x, rfl⟩
  | exc x => exact absurd rfl h
  | bad => exact absurd rfl h
/-- [f x for x in xs if p x] -/
def comp (p : α → M Bool) (f : α → M β) : List α → M (List β)
  | [] => .ok []
  | x :: xs => calm (p x) >>= fun b => if b then calm (f x) >>= fun y => comp p f xs >>= fun ys => .ok (y :: ys) else comp p f xs
theorem comp_app (p : α → M Bool) (f : α → M β) : ∀ (xs ys : List α), comp p f (xs ++ ys) = (comp p f xs >>= fun a => comp p f ys >>= fun b => .ok (a ++ b))
  | [], ys => by simp [comp]
  | x :: xs, ys => by
    simp only [List.cons_append, comp, assoc]
    cases calm (p x) with
    | bad => rfl
    | exc x => rfl
    | ok b =>
      simp only [ok_bind]
      cases b with
      | false => exact comp_app p f xs ys
      | true =>
        simp only [if_true, assoc]
        cases calm (f x) with
        | bad => rfl
        | exc x => rfl
        | ok y =>
          simp only [ok_bind]
          rw [comp_app p f xs ys]
          cases comp p f xs <;> cases comp p f ys <;> rfl
theorem comp_ok (p : α → Bool) (f : α → β) : ∀ xs : List α, comp (fun x => .ok (p x)) (fun x => .ok (f x)) xs = .ok ((xs.filter p).map f)
  | [] => rfl
  | x :: xs => by
    simp only [comp, calm_of_ok, ok_bind]
    cases h : p x with
    | true => rw [if_pos rfl, comp_ok p f xs, List.filter_cons_of_pos h]; rfl
    | false => rw [if_neg (by simp), comp_ok p f xs, List.filter_cons_of_neg (by simp [h])]
theorem comp_map (f : α → β) (xs : List α) : comp (fun _ => .ok true) (fun x => .ok (f x)) xs = .ok (xs.map f) := by
  rw [comp_ok (fun _ => true) f xs]
  congr 2
  exact List.filter_eq_self.mpr fun _ _ => rfl
/-- what each turn gives, told for the items -/
theorem comp_of {p : α → M Bool} {f : α → M β} (p' : α → Bool) (f' : α → β) : ∀ xs : List α, (∀ x ∈ xs, p x = .ok (p' x)) → (∀ x ∈ xs, p' x = true → f x = .ok (f' x)) → comp p f xs = .ok ((xs.filter p').map f')
  | [], _, _ => rfl
  | x :: xs, h1, h2 => by
    have ih := comp_of p' f' xs (fun y hy => h1 y (List.mem_cons_of_mem _ hy)) fun y hy => h2 y (List.mem_cons_of_mem _ hy)
    simp only [comp]
    rw [h1 x List.mem_cons_self]
    simp only [calm_of_ok, ok_bind]
    cases h : p' x with
    | true => rw [if_pos rfl, h2 x List.mem_cons_self h, ih, List.filter_cons_of_pos h]; rfl
    | false => rw [if_neg (by simp), ih, List.filter_cons_of_neg (by simp [h])]
theorem comp_ne_exc (p : α → M Bool) (f : α → M β) : ∀ (xs : List α) (x : PX), comp p f xs ≠ .exc x
  | [], _ => fun z => nomatch z
  | y :: ys, x => by
    simp only [comp]
    cases hp : p y with
    | bad => exact fun z => nomatch z
    | exc q => exact fun z => nomatch z
    | ok b =>
      simp only [calm_of_ok, ok_bind]
      cases b with
      | false => exact comp_ne_exc p f ys x
      | true =>
        simp only [if_true]
        cases hf : f y with
        | bad => exact fun z => nomatch z
        | exc q => exact fun z => nomatch z
        | ok w =>
          simp only [calm_of_ok, ok_bind]
          cases hc : comp p f ys with
          | bad => exact fun z => nomatch z
          | exc q => exact absurd hc (comp_ne_exc p f ys q)
          | ok zs => exact fun z => nomatch z
theorem fold_app {σ : Type} (f : σ → α → M σ) : ∀ (xs ys : List α) (s : σ), fold f s (xs ++ ys) = (fold f s xs >>= fun s' => fold f s' ys)
  | [], ys, s => by simp [fold]
  | x :: xs, ys, s => by
    simp only [List.cons_append, fold, assoc]
    congr 1; funext s'; exact fold_app f xs ys s'
theorem foldC_app (f : σ → α → M (Ct σ ρ)) : ∀ (xs ys : List α) (s : σ), foldC f s (xs ++ ys) = (foldC f s xs >>= fun c => match c with | .nx s' => foldC f s' ys | c => .ok c)
  | [], ys, s => by simp [foldC]
  | x :: xs, ys, s => by
    simp only [List.cons_append, foldC, assoc]
    congr 1; funext c
    cases c with
    | nx s' => exact foldC_app f xs ys s'
    | rt r => rfl
    | bk s' => rfl
/-- no turn leaves -/
theorem foldC_unit {f : Unit → α → M (Ct Unit ρ)} : ∀ xs : List α, (∀ x ∈ xs, f () x = .ok (.nx ())) → foldC f () xs = .ok (.nx ())
  | [], _ => rfl
  | x :: xs, h => by
    simp only [foldC]
    rw [h x List.mem_cons_self]
    exact foldC_unit xs fun y hy => h y (List.mem_cons_of_mem _ hy)
/-- enumerate(xs) -/
def enumL (xs : List α) : List (Int × α) := xs.zipIdx.map fun p => ((p.2 : Int), p.1)
theorem enumL_get (xs : List α) (i : Nat) : enumI xs i = (enumL xs)[i]? := by
  unfold enumI enumL
  rw [List.getElem?_map, List.getElem?_zipIdx]
  cases xs[i]? <;> simp
theorem enumL_len (xs : List α) : (enumL xs).length = xs.length := by simp [enumL]
/-- try: m; except: h, for the classes that p names -/
def tryC (p : XC → Bool) (m : M α) (h : PX → M α) : M α := match m with | .exc x => if p x.cls then h x else .exc x | m => m
end M

/-! ### judgements -/
/-- a model's exception over the classes' places -/
def PX.x (tx : XC → Addr) (x : PX) : Exn := ⟨tx x.cls, x.fs⟩
section
variable (tx : XC → Addr) (Y : YC)
def XkM {α : Type} (Γ : List Cell) (m : M α) : Prop := ∀ x, m = .exc x → Y.kx (x.x tx) Γ
/-- the term evaluates to frozen data as the model says -/
def We (te : TE) (Γ : List Cell) {α : Type} (d : Dat α) (m : M α) : Prop := m.nb → XkM tx Y Γ m → W Y te Γ d (m = .ok ·)
def Re (te : TE) (Γ : List Cell) {α : Type} (d : Dat α) (m : M α) : Prop := m.nb → XkM tx Y Γ m → R Y te Γ d (m = .ok ·)
def Oe (te : TE) (Γ : List Cell) {α : Type} {d : Dat α} (od : OD α) (m : M α) : Prop := m.nb → XkM tx Y Γ m → O Y te Γ od (m = .ok ·)
def Te (t : TT) (Γ : List Cell) (m : M Bool) : Prop := m.nb → XkM tx Y Γ m → T Y t Γ (m = .ok ·)
end
section
variable {tx : XC → Addr} {Y : YC} {Γ : List Cell} {te ta tb tc td : TE} {t u : TT} {α β γ δ ε : Type} {d : Dat α} {d1 : Dat α} {d2 : Dat β} {d3 : Dat γ}
theorem XkM.l {m : M α} {f : α → M β} (h : XkM tx Y Γ (m >>= f)) : XkM tx Y Γ m := fun x e => h x (by rw [e]; rfl)
theorem XkM.r {m : M α} {f : α → M β} {x : α} (h : XkM tx Y Γ (m >>= f)) (e : m = .ok x) : XkM tx Y Γ (f x) := fun y e2 => h y (by rw [e]; exact e2)
theorem XkM.ok {x : α} : XkM tx Y Γ (M.ok x) := fun _ z => nomatch z
theorem we_eq {m m' : M α} (h : We tx Y te Γ d m) (e : m = m') : We tx Y te Γ d m' := e ▸ h
theorem re_eq {m m' : M α} (h : Re tx Y te Γ d m) (e : m = m') : Re tx Y te Γ d m' := e ▸ h
theorem oe_eq {od : @OD α d} {m m' : M α} (h : Oe tx Y te Γ od m) (e : m = m') : Oe tx Y te Γ od m' := e ▸ h
theorem te_eq {m m' : M Bool} (h : Te tx Y t Γ m) (e : m = m') : Te tx Y t Γ m' := e ▸ h
theorem o_mono {od : @OD α d} {k k' : α → Prop} (h : O Y te Γ od k) (m : ∀ x, k x → k' x) : O Y te Γ od k' := fun e F σ H s Q q => h e F σ H s Q fun v F' H' L x kx g r => q v F' H' L x (m x kx) g r
theorem re_w {m : M α} (h : We tx Y te Γ d m) : Re tx Y te Γ d m := fun nb xk => r_of_w (h nb xk)
theorem we_o {od : @OD α d} {m : M α} (h : Oe tx Y te Γ od m) : We tx Y te Γ d m := fun nb xk => w_of_o (h nb xk)
theorem we_r [i : @Imm α d] {m : M α} (h : Re tx Y te Γ d m) : We tx Y te Γ d m := fun nb xk => w_of_r (h nb xk)
/-- one part read, then the rest -/
theorem Re.k {m : M α} {f : α → M β} {k : α → Prop} (h : Re tx Y te Γ d m) (nb : (m >>= f).nb) (xk : XkM tx Y Γ (m >>= f)) (g : ∀ x, m = .ok x → (f x).nb → XkM tx Y Γ (f x) → k x) : R Y te Γ d k :=
  r_mono (h (M.nb1 nb) xk.l) fun x e => g x e (M.nb2 nb e) (xk.r e)
theorem We.k {m : M α} {f : α → M β} {k : α → Prop} (h : We tx Y te Γ d m) (nb : (m >>= f).nb) (xk : XkM tx Y Γ (m >>= f)) (g : ∀ x, m = .ok x → (f x).nb → XkM tx Y Γ (f x) → k x) : W Y te Γ d k :=
  w_mono (h (M.nb1 nb) xk.l) fun x e => g x e (M.nb2 nb e) (xk.r e)
theorem Oe.k {od : @OD α d} {m : M α} {f : α → M β} {k : α → Prop} (h : Oe tx Y te Γ od m) (nb : (m >>= f).nb) (xk : XkM tx Y Γ (m >>= f)) (g : ∀ x, m = .ok x → (f x).nb → XkM tx Y Γ (f x) → k x) : O Y te Γ od k :=
  o_mono (h (M.nb1 nb) xk.l) fun x e => g x e (M.nb2 nb e) (xk.r e)
theorem Te.k {m : M Bool} {f : Bool → M β} {k : Bool → Prop} (h : Te tx Y t Γ m) (nb : (m >>= f).nb) (xk : XkM tx Y Γ (m >>= f)) (g : ∀ x, m = .ok x → (f x).nb → XkM tx Y Γ (f x) → k x) : T Y t Γ k :=
  t_mono (h (M.nb1 nb) xk.l) fun x e => g x e (M.nb2 nb e) (xk.r e)
/-! shapes of rules -/
theorem we_R {f : α → M β} {m : M α} (rule : ∀ k : β → Prop, (R Y ta Γ d1 fun x => (f x).nb → ∃ z, f x = .ok z ∧ k z) → W Y te Γ d2 k) (hf : ∀ x y, f x ≠ .exc y) (h : Re tx Y ta Γ d1 m) : We tx Y te Γ d2 (m >>= f) := fun nb xk =>
  rule _ (h.k nb xk fun x e nb2 _ _ => by
    cases q : f x with
    | ok z => exact ⟨z, rfl, by rw [e]; exact q⟩
    | exc y => exact absurd q (hf x y)
    | bad => exact absurd q nb2)
theorem we_p1 {f : α → β} {m : M α} (rule : ∀ k : β → Prop, (R Y ta Γ d1 fun x => k (f x)) → W Y te Γ d2 k) (h : Re tx Y ta Γ d1 m) : We tx Y te Γ d2 (m >>= fun x => .ok (f x)) := fun nb xk =>
  rule _ (h.k nb xk fun x e _ _ => by rw [e]; rfl)
theorem we_p1w {f : α → β} {m : M α} (rule : ∀ k : β → Prop, (W Y ta Γ d1 fun x => k (f x)) → W Y te Γ d2 k) (h : We tx Y ta Γ d1 m) : We tx Y te Γ d2 (m >>= fun x => .ok (f x)) := fun nb xk =>
  rule _ (h.k nb xk fun x e _ _ => by rw [e]; rfl)
theorem re_p1 {f : α → β} {m : M α} (rule : ∀ k : β → Prop, (R Y ta Γ d1 fun x => k (f x)) → R Y te Γ d2 k) (h : Re tx Y ta Γ d1 m) : Re tx Y te Γ d2 (m >>= fun x => .ok (f x)) := fun nb xk =>
  rule _ (h.k nb xk fun x e _ _ => by rw [e]; rfl)
theorem oe_p1 {od : @OD β d2} {f : α → β} {m : M α} (rule : ∀ k : β → Prop, (R Y ta Γ d1 fun x => k (f x)) → O Y te Γ od k) (h : Re tx Y ta Γ d1 m) : Oe tx Y te Γ od (m >>= fun x => .ok (f x)) := fun nb xk =>
  rule _ (h.k nb xk fun x e _ _ => by rw [e]; rfl)
theorem oe_p1w {od : @OD β d2} {f : α → β} {m : M α} (rule : ∀ k : β → Prop, (W Y ta Γ d1 fun x => k (f x)) → O Y te Γ od k) (h : We tx Y ta Γ d1 m) : Oe tx Y te Γ od (m >>= fun x => .ok (f x)) := fun nb xk =>
  rule _ (h.k nb xk fun x e _ _ => by rw [e]; rfl)
theorem we_p2 {f : α → β → γ} {m : M α} {n : M β} (rule : ∀ k : γ → Prop, (R Y ta Γ d1 fun x => R Y tb Γ d2 fun y => k (f x y)) → W Y te Γ d3 k) (h : Re tx Y ta Γ d1 m) (h2 : Re tx Y tb Γ d2 n) : We tx Y te Γ d3 (m >>= fun x => n >>= fun y => .ok (f x y)) := fun nb xk =>
  rule _ (h.k nb xk fun x e nb xk => h2.k nb xk fun y e2 _ _ => by rw [e]; show (n >>= _) = _; rw [e2]; rfl)
/-- a guarded operator -/
theorem we_g2 {P : α → β → Prop} [∀ x y, Decidable (P x y)] {f : α → β → γ} {m : M α} {n : M β} (rule : ∀ k : γ → Prop, (R Y ta Γ d1 fun x => R Y tb Γ d2 fun y => P x y ∧ k (f x y)) → W Y te Γ d3 k) (h : Re tx Y ta Γ d1 m) (h2 : Re tx Y tb Γ d2 n) : We tx Y te Γ d3 (m >>= fun x => n >>= fun y => M.asrt (P x y) (.ok (f x y))) := fun nb xk =>
  rule _ (h.k nb xk fun x e nb xk => h2.k nb xk fun y e2 nb2 _ => ⟨M.asrt_nb nb2, by rw [e]; show (n >>= _) = _; rw [e2]; show M.asrt _ _ = _; rw [M.asrt_pos (M.asrt_nb nb2)]⟩)
/-- an item looked up -/
theorem we_l2 {f : α → β → Option γ} {m : M α} {n : M β} (rule : ∀ k : γ → Prop, (W Y ta Γ d1 fun x => R Y tb Γ d2 fun y => ∃ z, f x y = some z ∧ k z) → W Y te Γ d3 k) (h : We tx Y ta Γ d1 m) (h2 : Re tx Y tb Γ d2 n) : We tx Y te Γ d3 (m >>= fun x => n >>= fun y => M.ofO (f x y)) := fun nb xk =>
  rule _ (h.k nb xk fun x e nb xk => h2.k nb xk fun y e2 nb2 _ => by
    cases q : f x y with
    | none => rw [q] at nb2; exact absurd rfl nb2
    | some z => exact ⟨z, rfl, by rw [e]; show (n >>= _) = _; rw [e2]; show M.ofO _ = _; rw [q]; rfl⟩)
theorem re_l2 {f : α → β → Option γ} {m : M α} {n : M β} (rule : ∀ k : γ → Prop, (R Y ta Γ d1 fun x => R Y tb Γ d2 fun y => ∃ z, f x y = some z ∧ k z) → R Y te Γ d3 k) (h : Re tx Y ta Γ d1 m) (h2 : Re tx Y tb Γ d2 n) : Re tx Y te Γ d3 (m >>= fun x => n >>= fun y => M.ofO (f x y)) := fun nb xk =>
  rule _ (h.k nb xk fun x e nb xk => h2.k nb xk fun y e2 nb2 _ => by
    cases q : f x y with
    | none => rw [q] at nb2; exact absurd rfl nb2
    | some z => exact ⟨z, rfl, by rw [e]; show (n >>= _) = _; rw [e2]; show M.ofO _ = _; rw [q]; rfl⟩)
end
end G
end

noncomputable section
/-! M1: the rules of expressions, with models. (printed in part by genM1.py) -/
namespace G
open PySem PySem.Spec PyProof.Rows L2 PySem.W
instance (i j : Int) : Decidable (CDiv i j) := inferInstanceAs (Decidable (_ ∧ _))
instance (i j : Int) : Decidable (CMul i j) := inferInstanceAs (Decidable (_ ∨ _))
instance (i j : Int) : Decidable (CPow i j) := inferInstanceAs (Decidable (_ ∧ _ ∧ _))
instance : @Flat Bool dBool := ⟨V.bl, fun h => h, fun _ => rfl, fun x y => by cases x <;> cases y <;> simp [eqV]⟩
section
variable {tx : XC → Addr} {Y : YC} {Γ : List Cell} {te ta tb tc td : TE} {t u : TT} {α β γ δ ε : Type} {d : Dat α} {d1 : Dat α} {d2 : Dat β} {d3 : Dat γ} {d4 : Dat δ}
theorem w_calm {k : α → Prop} (h : W (calm Y.g) te Γ d k) : W Y te Γ d k := fun e F σ H s Q q => h e F σ H ⟨fun _ _ _ _ _ _ z => z.elim, s.2⟩ Q q
theorem o_calm {od : @OD α d} {k : α → Prop} (h : O (calm Y.g) te Γ od k) : O Y te Γ od k := fun e F σ H s Q q => h e F σ H ⟨fun _ _ _ _ _ _ z => z.elim, s.2⟩ Q q
theorem t_calm {k : Bool → Prop} (h : T (calm Y.g) t Γ k) : T Y t Γ k := fun e F σ H s Q q => h e F σ H ⟨fun _ _ _ _ _ _ z => z.elim, s.2⟩ Q q
theorem we_calm {m : M α} (h : We tx (calm Y.g) te Γ d m) : We tx Y te Γ d (M.calm m) := fun nb xk => by
  obtain ⟨x, e⟩ := M.calm_nb nb
  subst e
  exact w_calm (h (fun z => nomatch z) XkM.ok)
theorem oe_calm {od : @OD α d} {m : M α} (h : Oe tx (calm Y.g) te Γ od m) : Oe tx Y te Γ od (M.calm m) := fun nb xk => by
  obtain ⟨x, e⟩ := M.calm_nb nb
  subst e
  exact o_calm (h (fun z => nomatch z) XkM.ok)
/-- an owned name read as if it were frozen -/
theorem we_borrow {od0 : @OD α d1} {x : α} {pin : Option V} [i : @Imm β d2] {m : M β} (j : Nat) (hj : Γ[j]? = some (.own d1 od0 pin x)) (h : We tx (calm Y.g) te (Γ.set j (.val d1 x)) d2 m) : We tx Y te Γ d2 (M.calm m) := fun nb xk => by
  obtain ⟨y, e⟩ := M.calm_nb nb
  subst e
  exact w_borrow j hj (h (fun z => nomatch z) XkM.ok)
theorem oe_borrow {od0 : @OD α d1} {x : α} {pin : Option V} {od : @OD β d2} [i : @OIm β d2 od] {m : M β} (j : Nat) (hj : Γ[j]? = some (.own d1 od0 pin x)) (h : Oe tx (calm Y.g) te (Γ.set j (.val d1 x)) od m) : Oe tx Y te Γ od (M.calm m) := fun nb xk => by
  obtain ⟨y, e⟩ := M.calm_nb nb
  subst e
  exact o_borrow j hj (h (fun z => nomatch z) XkM.ok)
/-! names, constants -/
theorem we_var {i : Nat} {x : α} (h : Γ[i]? = some (.val d x)) : We tx Y (tVar i) Γ d (.ok x) := fun _ _ => w_var h rfl
theorem re_var {i : Nat} {x : α} (h : Γ[i]? = some (.val d x)) : Re tx Y (tVar i) Γ d (.ok x) := fun _ _ => r_var h rfl
theorem re_varO {od : @OD α d} {pin : Option V} {i : Nat} {x : α} (h : Γ[i]? = some (.own d od pin x)) : Re tx Y (tVar i) Γ d (.ok x) := fun _ _ => r_varO h rfl
theorem we_int {n : Int} : We tx Y (tC (.int n)) Γ dInt (.ok n) := fun _ _ => w_int rfl
theorem we_bl {n : Bool} : We tx Y (tC (.bl n)) Γ dBool (.ok n) := fun _ _ => w_bl rfl
theorem we_str {n : Str} : We tx Y (tC (.str n)) Γ dStr (.ok n) := fun _ _ => w_str rfl
theorem we_non : We tx Y (tC .non) Γ dUnit (.ok ()) := fun _ _ => w_non rfl
theorem we_nonO : We tx Y (tC .non) Γ (dOpt (d := d)) (.ok .none) := fun _ _ => w_nonO rfl
theorem we_some {m : M α} (h : We tx Y te Γ d m) : We tx Y te Γ (dOpt (d := d)) (m >>= fun x => .ok (.some x)) := we_p1w (fun k h => w_some h) h
/-! operators -/
theorem we_add {m n : M Int} (h : Re tx Y ta Γ dInt m) (h2 : Re tx Y tb Γ dInt n) : We tx Y (tOp (rI0 fun i j => .int (i + j)) ta tb) Γ dInt (m >>= fun x => n >>= fun y => .ok (x + y)) := we_p2 (fun k h => w_add h) h h2
theorem we_sub {m n : M Int} (h : Re tx Y ta Γ dInt m) (h2 : Re tx Y tb Γ dInt n) : We tx Y (tOp (rI0 fun i j => .int (i - j)) ta tb) Γ dInt (m >>= fun x => n >>= fun y => .ok (x - y)) := we_p2 (fun k h => w_sub h) h h2
theorem we_mul {m n : M Int} (h : Re tx Y ta Γ dInt m) (h2 : Re tx Y tb Γ dInt n) : We tx Y (tOp (rI CMul fun i j => .int (i * j)) ta tb) Γ dInt (m >>= fun x => n >>= fun y => M.asrt (CMul x y) (.ok (x * y))) := we_g2 (fun k h => w_mul h) h h2
theorem we_mod {m n : M Int} (h : Re tx Y ta Γ dInt m) (h2 : Re tx Y tb Γ dInt n) : We tx Y (tOp (rI (fun _ j => 0 < j) fun i j => .int (i % j)) ta tb) Γ dInt (m >>= fun x => n >>= fun y => M.asrt (0 < y) (.ok (x % y))) := we_g2 (P := fun _ y => 0 < y) (fun k h => w_mod h) h h2
theorem we_fdiv {m n : M Int} (h : Re tx Y ta Γ dInt m) (h2 : Re tx Y tb Γ dInt n) : We tx Y (tOp (rI CDiv fun i j => .int (i / j)) ta tb) Γ dInt (m >>= fun x => n >>= fun y => M.asrt (CDiv x y) (.ok (x / y))) := we_g2 (fun k h => w_fdiv h) h h2
theorem we_pow {m n : M Int} (h : Re tx Y ta Γ dInt m) (h2 : Re tx Y tb Γ dInt n) : We tx Y (tOp (rI CPow fun i j => .int (i ^ j.toNat)) ta tb) Γ dInt (m >>= fun x => n >>= fun y => M.asrt (CPow x y) (.ok (x ^ y.toNat))) := we_g2 (fun k h => w_pow h) h h2
theorem we_powC {a b c : Int} (h : Re tx Y ta Γ dInt (.ok a)) (h2 : Re tx Y tb Γ dInt (.ok b)) (hc : CPow a b ∧ a ^ b.toNat = c) : We tx Y (tOp (rI CPow fun i j => .int (i ^ j.toNat)) ta tb) Γ dInt (.ok c) := we_eq (we_pow h h2) (by show M.asrt _ _ = _; rw [M.asrt_pos hc.1, hc.2])
theorem we_neg {m : M Int} (h : Re tx Y ta Γ dInt m) : We tx Y (tUn (rU fun i => .int (-i)) ta) Γ dInt (m >>= fun x => .ok (-x)) := we_p1 (fun k h => w_neg h) h
theorem we_lt {m n : M Int} (h : Re tx Y ta Γ dInt m) (h2 : Re tx Y tb Γ dInt n) : We tx Y (tOp (rI0 fun i j => .bl (decide (i < j))) ta tb) Γ dBool (m >>= fun x => n >>= fun y => .ok (decide (x < y))) := we_p2 (fun k h => w_lt h) h h2
theorem we_le {m n : M Int} (h : Re tx Y ta Γ dInt m) (h2 : Re tx Y tb Γ dInt n) : We tx Y (tOp (rI0 fun i j => .bl (decide (i ≤ j))) ta tb) Γ dBool (m >>= fun x => n >>= fun y => .ok (decide (x ≤ y))) := we_p2 (fun k h => w_le h) h h2
theorem we_gt {m n : M Int} (h : Re tx Y ta Γ dInt m) (h2 : Re tx Y tb Γ dInt n) : We tx Y (tOp (rI0 fun i j => .bl (decide (j < i))) ta tb) Γ dBool (m >>= fun x => n >>= fun y => .ok (decide (y < x))) := we_p2 (fun k h => w_gt h) h h2
theorem we_ge {m n : M Int} (h : Re tx Y ta Γ dInt m) (h2 : Re tx Y tb Γ dInt n) : We tx Y (tOp (rI0 fun i j => .bl (decide (j ≤ i))) ta tb) Γ dBool (m >>= fun x => n >>= fun y => .ok (decide (y ≤ x))) := we_p2 (fun k h => w_ge h) h h2
/-- scalars of one kind, compared -/
class Sc (α : Type) [d : Dat α] where
  enc : α → V
  isEnc : ∀ {C : GCtx} {F : Hp} {v : V} {x : α}, d.rep C F v x → v = enc x
  scal : ∀ x y, L2.scal (enc x) (enc y) = true
  inj : ∀ x y, enc x = enc y → x = y
instance : Sc Int := ⟨V.int, fun h => h, fun _ _ => rfl, fun _ _ h => V.int.inj h⟩
instance : Sc Bool := ⟨V.bl, fun h => h, fun _ _ => rfl, fun _ _ h => V.bl.inj h⟩
instance : Sc Str := ⟨V.str, fun h => h, fun _ _ => rfl, fun _ _ h => V.str.inj h⟩
theorem w_eqS [s : @Sc α d] [DecidableEq α] {kb : Bool → Prop} (h : R Y ta Γ d fun x => R Y tb Γ d fun y => kb (decide (x = y))) : W Y (tOp rEq ta tb) Γ dBool kb := fun e F σ H st Q q => h e F σ H st _ fun v1 F1 H1 x h1 g1 r1 => h1 e F1 σ H1 (st.grow g1) _ fun v2 F2 H2 y ky g2 r2 => by
  cases s.isEnc r1
  cases s.isEnc r2
  exact ⟨s.scal x y, q _ F2 H2 _ ky (g1.trans0 g2) (by show V.bl _ = V.bl _; rw [decide_eq_decide.mpr ⟨s.inj x y, fun z => by rw [z]⟩])⟩
theorem w_neS [s : @Sc α d] [DecidableEq α] {kb : Bool → Prop} (h : R Y ta Γ d fun x => R Y tb Γ d fun y => kb (!decide (x = y))) : W Y (tOp rNe ta tb) Γ dBool kb := fun e F σ H st Q q => h e F σ H st _ fun v1 F1 H1 x h1 g1 r1 => h1 e F1 σ H1 (st.grow g1) _ fun v2 F2 H2 y ky g2 r2 => by
  cases s.isEnc r1
  cases s.isEnc r2
  exact ⟨s.scal x y, q _ F2 H2 _ ky (g1.trans0 g2) (by show V.bl _ = V.bl _; rw [decide_eq_decide.mpr ⟨s.inj x y, fun z => by rw [z]⟩])⟩
theorem we_eqS [s : @Sc α d] [DecidableEq α] {m n : M α} (h : Re tx Y ta Γ d m) (h2 : Re tx Y tb Γ d n) : We tx Y (tOp rEq ta tb) Γ dBool (m >>= fun x => n >>= fun y => .ok (decide (x = y))) := we_p2 (fun k h => w_eqS h) h h2
theorem we_neS [s : @Sc α d] [DecidableEq α] {m n : M α} (h : Re tx Y ta Γ d m) (h2 : Re tx Y tb Γ d n) : We tx Y (tOp rNe ta tb) Γ dBool (m >>= fun x => n >>= fun y => .ok (!decide (x = y))) := we_p2 (fun k h => w_neS h) h h2
theorem we_eqD [de : @DE α d] [DecidableEq α] {m n : M α} (hd : de.dep ≤ 64) (h : Re tx Y ta Γ d m) (h2 : Re tx Y tb Γ d n) : We tx Y (tOp (rEqP Y.K) ta tb) Γ dBool (m >>= fun x => n >>= fun y => .ok (decide (x = y))) := we_p2 (fun k h => w_eqD hd h) h h2
theorem we_neD [de : @DE α d] [DecidableEq α] {m n : M α} (hd : de.dep ≤ 64) (h : Re tx Y ta Γ d m) (h2 : Re tx Y tb Γ d n) : We tx Y (tOp (rNeP Y.K) ta tb) Γ dBool (m >>= fun x => n >>= fun y => .ok (!decide (x = y))) := we_p2 (fun k h => w_neD hd h) h h2
/-- a op b op' c, whole numbers -/
theorem we_chain {f f' : Int → Int → Bool} {m n o : M Int} (h : Re tx Y ta Γ dInt m) (h2 : Re tx Y tb Γ dInt n) (h3 : Re tx Y tc Γ dInt o) : We tx Y (tChain (rI0 fun i j => .bl (f i j)) (rI0 fun i j => .bl (f' i j)) ta tb tc) Γ dBool (m >>= fun x => n >>= fun y => if f x y then o >>= fun z => .ok (f' y z) else .ok false) := fun nb xk e F σ H s Q q =>
  (h.k nb xk (k := fun x => R Y tb Γ dInt fun y => (n = .ok y) ∧ ((if f x y = true then o >>= fun z => M.ok (f' y z) else .ok false) : M Bool).nb ∧ XkM tx Y Γ ((if f x y = true then o >>= fun z => M.ok (f' y z) else .ok false) : M Bool) ∧ m = .ok x) fun x e1 nb xk => h2.k nb xk fun y e2 nb xk => ⟨e2, nb, xk, e1⟩) e F σ H s _ fun v1 F1 H1 x hy g1 r1 => hy e F1 σ H1 (s.grow g1) _ fun v2 F2 H2 y ⟨e2, nb, xk, e1⟩ g2 r2 => by
    cases (show v1 = .int x from r1)
    cases (show v2 = .int y from r2)
    refine ⟨x, y, rfl, rfl, f x y, rfl, ?_⟩
    cases hf : f x y with
    | false => 
      rw [if_neg (by simp)]
      exact q _ F2 H2 false (by rw [e1]; show (n >>= _) = _; rw [e2]; show (if f x y = true then _ else _) = _; rw [hf]; rfl) (g1.trans0 g2) rfl
    | true =>
      rw [if_pos rfl]
      rw [hf, if_pos rfl] at nb xk
      refine h3.k nb xk (k := fun z => o = .ok z) (fun z e3 _ _ => e3) e F2 σ H2 ((s.grow g1).grow g2) _ fun v3 F3 H3 z e3 g3 r3 => ?_
      cases (show v3 = .int z from r3)
      exact ⟨y, z, rfl, rfl, q _ F3 H3 _ (by rw [e1]; show (n >>= _) = _; rw [e2]; show (if f x y = true then _ else _) = _; rw [hf, if_pos rfl, e3]; rfl) ((g1.trans0 g2).trans0 g3) rfl⟩
theorem we_chainP {f f' : Int → Int → Bool} {x y z : Int} (h : Re tx Y ta Γ dInt (.ok x)) (h2 : Re tx Y tb Γ dInt (.ok y)) (h3 : Re tx Y tc Γ dInt (.ok z)) : We tx Y (tChain (rI0 fun i j => .bl (f i j)) (rI0 fun i j => .bl (f' i j)) ta tb tc) Γ dBool (.ok (f x y && f' y z)) := we_eq (we_chain h h2 h3) (by
  show (if f x y = true then _ else _) = _
  cases hf : f x y <;> rfl)
/-! tests -/
theorem te_test {m : M Bool} (h : We tx Y te Γ dBool m) : Te tx Y (tTest te) Γ m := fun nb xk => t_test (r_of_w (h nb xk))
theorem te_B {m : M Bool} (h : We tx Y te Γ dBool m) : Te tx Y (tB te) Γ m := fun nb xk => t_B (r_of_w (h nb xk))
theorem te_not {m : M Bool} (h : Te tx Y t Γ m) : Te tx Y (tNot t) Γ (m >>= fun b => .ok (!b)) := fun nb xk => t_not (h.k nb xk fun b e _ _ => by rw [e]; rfl)
theorem te_and {m n : M Bool} (h : Te tx Y t Γ m) (h2 : Te tx Y u Γ n) : Te tx Y (tAnd t u) Γ (m >>= fun b => if b then n else .ok false) := fun nb xk => t_and (h.k nb xk fun b e nb xk => ⟨fun hb => by
  subst hb; exact t_mono (h2 nb xk) fun c ec => by rw [e]; exact ec, fun hb => by subst hb; rw [e]; rfl⟩)
theorem te_or {m n : M Bool} (h : Te tx Y t Γ m) (h2 : Te tx Y u Γ n) : Te tx Y (tOr t u) Γ (m >>= fun b => if b then .ok true else n) := fun nb xk => t_or (h.k nb xk fun b e nb xk => ⟨fun hb => by subst hb; rw [e]; rfl, fun hb => by
  subst hb; exact t_mono (h2 nb xk) fun c ec => by rw [e]; exact ec⟩)
theorem te_andP {a b : Bool} (h : Te tx Y t Γ (.ok a)) (h2 : Te tx Y u Γ (.ok b)) : Te tx Y (tAnd t u) Γ (.ok (a && b)) := te_eq (te_and h h2) (by cases a <;> rfl)
theorem te_orP {a b : Bool} (h : Te tx Y t Γ (.ok a)) (h2 : Te tx Y u Γ (.ok b)) : Te tx Y (tOr t u) Γ (.ok (a || b)) := te_eq (te_or h h2) (by cases a <;> rfl)
theorem we_and {m n : M Bool} (h : We tx Y ta Γ dBool m) (h2 : We tx Y tb Γ dBool n) : We tx Y (tAndV ta tb) Γ dBool (m >>= fun b => if b then n else .ok false) := fun nb xk => w_andV (r_of_w (h.k nb xk fun b e nb xk => ⟨fun hb => by
  subst hb; exact w_mono (h2 nb xk) fun c ec => by rw [e]; exact ec, fun hb => by subst hb; rw [e]; rfl⟩))
theorem we_or {m n : M Bool} (h : We tx Y ta Γ dBool m) (h2 : We tx Y tb Γ dBool n) : We tx Y (tOrV ta tb) Γ dBool (m >>= fun b => if b then .ok true else n) := fun nb xk => w_orV (r_of_w (h.k nb xk fun b e nb xk => ⟨fun hb => by subst hb; rw [e]; rfl, fun hb => by
  subst hb; exact w_mono (h2 nb xk) fun c ec => by rw [e]; exact ec⟩))
theorem we_andP {a b : Bool} (h : We tx Y ta Γ dBool (.ok a)) (h2 : We tx Y tb Γ dBool (.ok b)) : We tx Y (tAndV ta tb) Γ dBool (.ok (a && b)) := we_eq (we_and h h2) (by cases a <;> rfl)
theorem we_orP {a b : Bool} (h : We tx Y ta Γ dBool (.ok a)) (h2 : We tx Y tb Γ dBool (.ok b)) : We tx Y (tOrV ta tb) Γ dBool (.ok (a || b)) := we_eq (we_or h h2) (by cases a <;> rfl)
theorem we_not {m : M Bool} (h : We tx Y ta Γ dBool m) : We tx Y (tNotV ta) Γ dBool (m >>= fun b => .ok (!b)) := fun nb xk => w_notV (r_of_w (h.k nb xk fun b e _ _ => by rw [e]; rfl))
theorem we_if {m : M Bool} {n o : M α} (h : Te tx Y t Γ m) (h2 : We tx Y ta Γ d n) (h3 : We tx Y tb Γ d o) : We tx Y (tIf t ta tb) Γ d (m >>= fun b => if b then n else o) := fun nb xk => w_if (h.k nb xk fun b e nb xk => ⟨fun hb => by
  subst hb; exact w_mono (h2 nb xk) fun c ec => by rw [e]; exact ec, fun hb => by subst hb; exact w_mono (h3 nb xk) fun c ec => by rw [e]; exact ec⟩)
theorem we_ifP {b : Bool} {n o : M α} (h : Te tx Y t Γ (.ok b)) (h2 : We tx Y ta Γ d n) (h3 : We tx Y tb Γ d o) : We tx Y (tIf t ta tb) Γ d (if b then n else o) := we_if h h2 h3
theorem te_truL {m : M (List α)} (h : Re tx Y ta Γ (dList (d := d)) m) : Te tx Y (fun σ H Q => ta σ H fun x H' => ∃ k, TruV Y.K x H' k ∧ Q k H') Γ (m >>= fun xs => .ok (!xs.isEmpty)) := fun nb xk => t_truL (h.k nb xk fun x e _ _ => by rw [e]; rfl)
/-! built-ins -/
theorem we_abs {m : M Int} (h : Re tx Y ta Γ dInt m) : We tx Y (tCB (fun xs H Q => ∃ i, xs = [.int i] ∧ Q (.int (if i < 0 then -i else i)) H) (tCons ta tNil)) Γ dInt (m >>= fun x => .ok (if x < 0 then -x else x)) := we_p1 (fun k h => w_abs h) h
theorem we_int1 {m : M Int} (h : Re tx Y ta Γ dInt m) : We tx Y (tCB (fun xs H Q => (∃ i, xs = [.int i] ∧ Q (.int i) H) ∨ ∃ k, xs = [.bl k] ∧ Q (.int (if k then 1 else 0)) H) (tCons ta tNil)) Γ dInt m := we_eq (we_p1 (f := fun x : Int => x) (fun k h => w_int1 h) h) (M.bind_ok m)
theorem we_min2 {m n : M Int} (h : Re tx Y ta Γ dInt m) (h2 : Re tx Y tb Γ dInt n) : We tx Y (tCB (fun xs H Q => ∃ i j, xs = [.int i, .int j] ∧ Q (.int (if j < i then j else i)) H) (tCons ta (tCons tb tNil))) Γ dInt (m >>= fun x => n >>= fun y => .ok (if y < x then y else x)) := we_p2 (fun k h => w_min2 h) h h2
theorem we_max2 {m n : M Int} (h : Re tx Y ta Γ dInt m) (h2 : Re tx Y tb Γ dInt n) : We tx Y (tCB (fun xs H Q => ∃ i j, xs = [.int i, .int j] ∧ Q (.int (if j > i then j else i)) H) (tCons ta (tCons tb tNil))) Γ dInt (m >>= fun x => n >>= fun y => .ok (if y > x then y else x)) := we_p2 (fun k h => w_max2 h) h h2
theorem we_len {m : M (List α)} (h : Re tx Y ta Γ (dList (d := d)) m) : We tx Y (tCB (fun xs H Q => ∃ p ys, xs = [.ref p] ∧ (SqL Y.K H p ys ∨ SqT Y.K H p ys) ∧ Q (.int ys.length) H) (tCons ta tNil)) Γ dInt (m >>= fun xs => .ok (xs.length : Int)) := we_p1 (f := fun xs : List α => (xs.length : Int)) (fun k h => w_len h) h
theorem we_lenT {m : M (Tup α)} (h : Re tx Y ta Γ (dTup (d := d)) m) : We tx Y (tCB (fun xs H Q => ∃ p ys, xs = [.ref p] ∧ (SqL Y.K H p ys ∨ SqT Y.K H p ys) ∧ Q (.int ys.length) H) (tCons ta tNil)) Γ dInt (m >>= fun xs => .ok (xs.l.length : Int)) := we_p1 (f := fun xs : Tup α => (xs.l.length : Int)) (fun k h => w_lenT h) h
theorem we_lenQ {m : M (Sq α)} (h : Re tx Y ta Γ (dSq (d := d)) m) : We tx Y (tCB (fun xs H Q => ∃ p ys, xs = [.ref p] ∧ (SqL Y.K H p ys ∨ SqT Y.K H p ys) ∧ Q (.int ys.length) H) (tCons ta tNil)) Γ dInt (m >>= fun xs => .ok (xs.l.length : Int)) := we_p1 (f := fun xs : Sq α => (xs.l.length : Int)) (fun k h => w_lenQ h) h
/-! items -/
theorem we_ix {m : M (List α)} {n : M Int} (h : We tx Y ta Γ (dList (d := d)) m) (h2 : Re tx Y tb Γ dInt n) : We tx Y (tOp (rIxL Y.K) ta tb) Γ d (m >>= fun xs => n >>= fun i => M.ix xs i) := we_l2 (fun k h => w_ix h) h h2
theorem re_ix {m : M (List α)} {n : M Int} (h : Re tx Y ta Γ (dList (d := d)) m) (h2 : Re tx Y tb Γ dInt n) : Re tx Y (tOp (rIxL Y.K) ta tb) Γ d (m >>= fun xs => n >>= fun i => M.ix xs i) := re_l2 (fun k h => r_ix h) h h2
theorem we_ixT {m : M (Tup α)} {n : M Int} (h : We tx Y ta Γ (dTup (d := d)) m) (h2 : Re tx Y tb Γ dInt n) : We tx Y (tOp (rIxT Y.K) ta tb) Γ d (m >>= fun xs => n >>= fun i => M.ix xs.l i) := we_l2 (f := fun (xs : Tup α) i => atI xs.l i) (fun k h => w_ixT h) h h2
/-- an item of an owned list -/
theorem we_ixO {pin : Option V} {i : Nat} {xs : List α} {n : M Int} (hi : Γ[i]? = some (.own (dList (d := d)) (oList (d := d)) pin xs)) (h2 : Re tx Y tb Γ dInt n) : We tx Y (tOp (rIxL Y.K) (tVar i) tb) Γ d (n >>= fun i => M.ix xs i) := fun nb xk => w_ixO hi (h2.k nb xk fun y e nb2 _ => by
  cases q : atI xs y with
  | none => unfold M.ix at nb2; rw [q] at nb2; exact absurd rfl nb2
  | some z => exact ⟨z, rfl, by rw [e]; show M.ix _ _ = _; unfold M.ix; rw [q]; rfl⟩)
/-- an item of a tuple of a known length, at a written place -/
theorem atI_c {K : Frag} {H : Hp} {a : Addr} {xs : List V} {F : Hp} (h : TpA K F a xs) (s : Same F H) : SqT K H a xs := (h.mono s).sq
theorem w_fst {k : α → Prop} (h : W Y te Γ (dPair (d1 := d) (d2 := d2)) fun x => k x.1) : W Y (tOp (rIxT Y.K) te (tC (.int 0))) Γ d k := fun e F σ H s Q q => h e F σ H s _ fun v F' H' x kx g ⟨a, v1, v2, ev, ht, r1, r2⟩ => by
  subst ev
  exact ⟨a, _, 0, v1, rfl, rfl, atI_c ht g.fh, rfl, q v1 F' H' _ kx g r1⟩
theorem w_snd {k : β → Prop} (h : W Y te Γ (dPair (d1 := d) (d2 := d2)) fun x => k x.2) : W Y (tOp (rIxT Y.K) te (tC (.int 1))) Γ d2 k := fun e F σ H s Q q => h e F σ H s _ fun v F' H' x kx g ⟨a, v1, v2, ev, ht, r1, r2⟩ => by
  subst ev
  exact ⟨a, _, 1, v2, rfl, rfl, atI_c ht g.fh, rfl, q v2 F' H' _ kx g r2⟩
theorem we_fst {m : M (α × β)} (h : We tx Y te Γ (dPair (d1 := d) (d2 := d2)) m) : We tx Y (tOp (rIxT Y.K) te (tC (.int 0))) Γ d (m >>= fun x => .ok x.1) := we_p1w (fun k h => w_fst h) h
theorem we_snd {m : M (α × β)} (h : We tx Y te Γ (dPair (d1 := d) (d2 := d2)) m) : We tx Y (tOp (rIxT Y.K) te (tC (.int 1))) Γ d2 (m >>= fun x => .ok x.2) := we_p1w (fun k h => w_snd h) h
theorem w_0of3 {k : α → Prop} (h : W Y te Γ (dT3 (d1 := d) (d2 := d2) (d3 := d3)) fun x => k x.a) : W Y (tOp (rIxT Y.K) te (tC (.int 0))) Γ d k := fun e F σ H s Q q => h e F σ H s _ fun v F' H' x kx g ⟨a, v1, v2, v3, ev, ht, r1, r2, r3⟩ => by
  subst ev
  exact ⟨a, _, 0, v1, rfl, rfl, atI_c ht g.fh, rfl, q v1 F' H' _ kx g r1⟩
theorem we_0of3 {m : M (T3 α β γ)} (h : We tx Y te Γ (dT3 (d1 := d) (d2 := d2) (d3 := d3)) m) : We tx Y (tOp (rIxT Y.K) te (tC (.int 0))) Γ d (m >>= fun x => .ok x.a) := we_p1w (fun k h => w_0of3 h) h
theorem w_1of3 {k : β → Prop} (h : W Y te Γ (dT3 (d1 := d) (d2 := d2) (d3 := d3)) fun x => k x.b) : W Y (tOp (rIxT Y.K) te (tC (.int 1))) Γ d2 k := fun e F σ H s Q q => h e F σ H s _ fun v F' H' x kx g ⟨a, v1, v2, v3, ev, ht, r1, r2, r3⟩ => by
  subst ev
  exact ⟨a, _, 1, v2, rfl, rfl, atI_c ht g.fh, rfl, q v2 F' H' _ kx g r2⟩
theorem we_1of3 {m : M (T3 α β γ)} (h : We tx Y te Γ (dT3 (d1 := d) (d2 := d2) (d3 := d3)) m) : We tx Y (tOp (rIxT Y.K) te (tC (.int 1))) Γ d2 (m >>= fun x => .ok x.b) := we_p1w (fun k h => w_1of3 h) h
theorem w_2of3 {k : γ → Prop} (h : W Y te Γ (dT3 (d1 := d) (d2 := d2) (d3 := d3)) fun x => k x.c) : W Y (tOp (rIxT Y.K) te (tC (.int 2))) Γ d3 k := fun e F σ H s Q q => h e F σ H s _ fun v F' H' x kx g ⟨a, v1, v2, v3, ev, ht, r1, r2, r3⟩ => by
  subst ev
  exact ⟨a, _, 2, v3, rfl, rfl, atI_c ht g.fh, rfl, q v3 F' H' _ kx g r3⟩
theorem we_2of3 {m : M (T3 α β γ)} (h : We tx Y te Γ (dT3 (d1 := d) (d2 := d2) (d3 := d3)) m) : We tx Y (tOp (rIxT Y.K) te (tC (.int 2))) Γ d3 (m >>= fun x => .ok x.c) := we_p1w (fun k h => w_2of3 h) h
theorem w_0of4 {k : α → Prop} (h : W Y te Γ (dT4 (d1 := d) (d2 := d2) (d3 := d3) (d4 := d4)) fun x => k x.a) : W Y (tOp (rIxT Y.K) te (tC (.int 0))) Γ d k := fun e F σ H s Q q => h e F σ H s _ fun v F' H' x kx g ⟨a, v1, v2, v3, v4, ev, ht, r1, r2, r3, r4⟩ => by
  subst ev
  exact ⟨a, _, 0, v1, rfl, rfl, atI_c ht g.fh, rfl, q v1 F' H' _ kx g r1⟩
theorem we_0of4 {m : M (T4 α β γ δ)} (h : We tx Y te Γ (dT4 (d1 := d) (d2 := d2) (d3 := d3) (d4 := d4)) m) : We tx Y (tOp (rIxT Y.K) te (tC (.int 0))) Γ d (m >>= fun x => .ok x.a) := we_p1w (fun k h => w_0of4 h) h
theorem w_1of4 {k : β → Prop} (h : W Y te Γ (dT4 (d1 := d) (d2 := d2) (d3 := d3) (d4 := d4)) fun x => k x.b) : W Y (tOp (rIxT Y.K) te (tC (.int 1))) Γ d2 k := fun e F σ H s Q q => h e F σ H s _ fun v F' H' x kx g ⟨a, v1, v2, v3, v4, ev, ht, r1, r2, r3, r4⟩ => by
  subst ev
  exact ⟨a, _, 1, v2, rfl, rfl, atI_c ht g.fh, rfl, q v2 F' H' _ kx g r2⟩
theorem we_1of4 {m : M (T4 α β γ δ)} (h : We tx Y te Γ (dT4 (d1 := d) (d2 := d2) (d3 := d3) (d4 := d4)) m) : We tx Y (tOp (rIxT Y.K) te (tC (.int 1))) Γ d2 (m >>= fun x => .ok x.b) := we_p1w (fun k h => w_1of4 h) h
theorem w_2of4 {k : γ → Prop} (h : W Y te Γ (dT4 (d1 := d) (d2 := d2) (d3 := d3) (d4 := d4)) fun x => k x.c) : W Y (tOp (rIxT Y.K) te (tC (.int 2))) Γ d3 k := fun e F σ H s Q q => h e F σ H s _ fun v F' H' x kx g ⟨a, v1, v2, v3, v4, ev, ht, r1, r2, r3, r4⟩ => by
  subst ev
  exact ⟨a, _, 2, v3, rfl, rfl, atI_c ht g.fh, rfl, q v3 F' H' _ kx g r3⟩
theorem we_2of4 {m : M (T4 α β γ δ)} (h : We tx Y te Γ (dT4 (d1 := d) (d2 := d2) (d3 := d3) (d4 := d4)) m) : We tx Y (tOp (rIxT Y.K) te (tC (.int 2))) Γ d3 (m >>= fun x => .ok x.c) := we_p1w (fun k h => w_2of4 h) h
theorem w_3of4 {k : δ → Prop} (h : W Y te Γ (dT4 (d1 := d) (d2 := d2) (d3 := d3) (d4 := d4)) fun x => k x.d) : W Y (tOp (rIxT Y.K) te (tC (.int 3))) Γ d4 k := fun e F σ H s Q q => h e F σ H s _ fun v F' H' x kx g ⟨a, v1, v2, v3, v4, ev, ht, r1, r2, r3, r4⟩ => by
  subst ev
  exact ⟨a, _, 3, v4, rfl, rfl, atI_c ht g.fh, rfl, q v4 F' H' _ kx g r4⟩
theorem we_3of4 {m : M (T4 α β γ δ)} (h : We tx Y te Γ (dT4 (d1 := d) (d2 := d2) (d3 := d3) (d4 := d4)) m) : We tx Y (tOp (rIxT Y.K) te (tC (.int 3))) Γ d4 (m >>= fun x => .ok x.d) := we_p1w (fun k h => w_3of4 h) h
/-- an item of a tuple of whole numbers, at a computed place -/
def T4.at4 (x : T4 α α α α) (i : Int) : Option α := atI [x.a, x.b, x.c, x.d] i
theorem w_ix4 {k : α → Prop} (h : W Y te Γ (dT4 (d1 := d) (d2 := d) (d3 := d) (d4 := d)) fun x => R Y tb Γ dInt fun i => ∃ y, x.at4 i = some y ∧ k y) : W Y (tOp (rIxT Y.K) te tb) Γ d k := fun e F σ H s Q q => h e F σ H s _ fun v F1 H1 x h1 g ⟨a, v1, v2, v3, v4, ev, ht, r1, r2, r3, r4⟩ => h1 e F1 σ H1 (s.grow g) _ fun w F2 H2 i ⟨y, hy, ky⟩ g2 rw' => by
  subst ev
  cases (show w = .int i from rw')
  obtain ⟨v, hv, rv⟩ := atI_rep (d := d) (C := Y.g) (F := F1) (vs := [v1, v2, v3, v4]) (xs := [x.a, x.b, x.c, x.d]) ⟨r1, r2, r3, r4, trivial⟩ hy
  exact ⟨a, _, i, v, rfl, rfl, atI_c ht (g2.ff.trans g2.fh), hv, q v F2 H2 y ky (g.trans0 g2) (d.mono g2.ff rv)⟩
theorem we_ix4 {m : M (T4 α α α α)} {n : M Int} (h : We tx Y te Γ (dT4 (d1 := d) (d2 := d) (d3 := d) (d4 := d)) m) (h2 : Re tx Y tb Γ dInt n) : We tx Y (tOp (rIxT Y.K) te tb) Γ d (m >>= fun x => n >>= fun i => M.ofO (x.at4 i)) := we_l2 (fun k h => w_ix4 h) h h2
def at2 (x : α × α) (i : Int) : Option α := atI [x.1, x.2] i
theorem w_ix2 {k : α → Prop} (h : W Y te Γ (dPair (d1 := d) (d2 := d)) fun x => R Y tb Γ dInt fun i => ∃ y, at2 x i = some y ∧ k y) : W Y (tOp (rIxT Y.K) te tb) Γ d k := fun e F σ H s Q q => h e F σ H s _ fun v F1 H1 x h1 g ⟨a, v1, v2, ev, ht, r1, r2⟩ => h1 e F1 σ H1 (s.grow g) _ fun w F2 H2 i ⟨y, hy, ky⟩ g2 rw' => by
  subst ev
  cases (show w = .int i from rw')
  obtain ⟨v, hv, rv⟩ := atI_rep (d := d) (C := Y.g) (F := F1) (vs := [v1, v2]) (xs := [x.1, x.2]) ⟨r1, r2, trivial⟩ hy
  exact ⟨a, _, i, v, rfl, rfl, atI_c ht (g2.ff.trans g2.fh), hv, q v F2 H2 y ky (g.trans0 g2) (d.mono g2.ff rv)⟩
theorem we_ix2 {m : M (α × α)} {n : M Int} (h : We tx Y te Γ (dPair (d1 := d) (d2 := d)) m) (h2 : Re tx Y tb Γ dInt n) : We tx Y (tOp (rIxT Y.K) te tb) Γ d (m >>= fun x => n >>= fun i => M.ofO (at2 x i)) := we_l2 (fun k h => w_ix2 h) h h2
/-- len of a pair, .. -/
theorem w_lenOf {n : Nat} {k : Int → Prop} (hn : ∀ {C : GCtx} {F : Hp} {v : V} {x : α}, d.rep C F v x → ∃ a xs, v = .ref a ∧ TpA C.K F a xs ∧ xs.length = n) (h : R Y ta Γ d fun _ => k n) : W Y (tCB (fun xs H Q => ∃ p ys, xs = [.ref p] ∧ (SqL Y.K H p ys ∨ SqT Y.K H p ys) ∧ Q (.int ys.length) H) (tCons ta tNil)) Γ dInt k := fun e F σ H s Q q => h e F σ H s _ fun v F' H' x kx g r => by
  obtain ⟨a, xs, e1, h1, e2⟩ := hn r
  subst e1
  exact ⟨a, xs, rfl, .inr h1.sq, q _ F' H' _ (by rw [e2]; exact kx) g rfl⟩
theorem len2 {C : GCtx} {F : Hp} {v : V} {x : α × β} (h : (dPair (d1 := d) (d2 := d2)).rep C F v x) : ∃ a xs, v = .ref a ∧ TpA C.K F a xs ∧ xs.length = 2 := let ⟨a, _, _, e, h, _⟩ := h; ⟨a, _, e, h, rfl⟩
theorem len3 {C : GCtx} {F : Hp} {v : V} {x : T3 α β γ} (h : (dT3 (d1 := d) (d2 := d2) (d3 := d3)).rep C F v x) : ∃ a xs, v = .ref a ∧ TpA C.K F a xs ∧ xs.length = 3 := let ⟨a, _, _, _, e, h, _⟩ := h; ⟨a, _, e, h, rfl⟩
theorem len4 {C : GCtx} {F : Hp} {v : V} {x : T4 α β γ δ} (h : (dT4 (d1 := d) (d2 := d2) (d3 := d3) (d4 := d4)).rep C F v x) : ∃ a xs, v = .ref a ∧ TpA C.K F a xs ∧ xs.length = 4 := let ⟨a, _, _, _, _, e, h, _⟩ := h; ⟨a, _, e, h, rfl⟩
theorem we_len2 {m : M (α × β)} (h : Re tx Y ta Γ (dPair (d1 := d) (d2 := d2)) m) : We tx Y (tCB (fun xs H Q => ∃ p ys, xs = [.ref p] ∧ (SqL Y.K H p ys ∨ SqT Y.K H p ys) ∧ Q (.int ys.length) H) (tCons ta tNil)) Γ dInt (m >>= fun _ => .ok 2) := we_p1 (f := fun _ : α × β => (2 : Int)) (fun k h => w_lenOf (n := 2) len2 h) h
theorem we_len3 {m : M (T3 α β γ)} (h : Re tx Y ta Γ (dT3 (d1 := d) (d2 := d2) (d3 := d3)) m) : We tx Y (tCB (fun xs H Q => ∃ p ys, xs = [.ref p] ∧ (SqL Y.K H p ys ∨ SqT Y.K H p ys) ∧ Q (.int ys.length) H) (tCons ta tNil)) Γ dInt (m >>= fun _ => .ok 3) := we_p1 (f := fun _ : T3 α β γ => (3 : Int)) (fun k h => w_lenOf (n := 3) len3 h) h
theorem we_len4 {m : M (T4 α β γ δ)} (h : Re tx Y ta Γ (dT4 (d1 := d) (d2 := d2) (d3 := d3) (d4 := d4)) m) : We tx Y (tCB (fun xs H Q => ∃ p ys, xs = [.ref p] ∧ (SqL Y.K H p ys ∨ SqT Y.K H p ys) ∧ Q (.int ys.length) H) (tCons ta tNil)) Γ dInt (m >>= fun _ => .ok 4) := we_p1 (f := fun _ : T4 α β γ δ => (4 : Int)) (fun k h => w_lenOf (n := 4) len4 h) h
/-! membership -/
/-- x in xs -/
def memB {α : Type} [DecidableEq α] (x : α) (xs : List α) : Bool := decide (x ∈ xs)
theorem memB_iff {α : Type} [DecidableEq α] {x : α} {xs : List α} : memB x xs = true ↔ x ∈ xs := decide_eq_true_iff
theorem we_in [f : @Flat α d] [DecidableEq α] {m : M α} {n : M (List α)} (h : Re tx Y ta Γ d m) (h2 : Re tx Y tb Γ (dList (d := d)) n) : We tx Y (tOp (rIn Y.K false) ta tb) Γ dBool (m >>= fun x => n >>= fun xs => .ok (memB x xs)) := we_p2 (f := fun (x : α) xs => memB x xs) (fun k h => w_in h) h h2
theorem we_notin [f : @Flat α d] [DecidableEq α] {m : M α} {n : M (List α)} (h : Re tx Y ta Γ d m) (h2 : Re tx Y tb Γ (dList (d := d)) n) : We tx Y (tOp (rIn Y.K true) ta tb) Γ dBool (m >>= fun x => n >>= fun xs => .ok (!memB x xs)) := we_p2 (f := fun (x : α) xs => !memB x xs) (fun k h => w_notin h) h h2
theorem we_inT [f : @Flat α d] [DecidableEq α] {m : M α} {n : M (Tup α)} (h : Re tx Y ta Γ d m) (h2 : Re tx Y tb Γ (dTup (d := d)) n) : We tx Y (tOp (rIn Y.K false) ta tb) Γ dBool (m >>= fun x => n >>= fun xs => .ok (memB x xs.l)) := we_p2 (f := fun (x : α) (xs : Tup α) => memB x xs.l) (fun k h => w_inT h) h h2
theorem we_notinT [f : @Flat α d] [DecidableEq α] {m : M α} {n : M (Tup α)} (h : Re tx Y ta Γ d m) (h2 : Re tx Y tb Γ (dTup (d := d)) n) : We tx Y (tOp (rIn Y.K true) ta tb) Γ dBool (m >>= fun x => n >>= fun xs => .ok (!memB x xs.l)) := we_p2 (f := fun (x : α) (xs : Tup α) => !memB x xs.l) (fun k h => w_notinT h) h h2
theorem we_inS {m : M Int} {n : M IS} (h : Re tx Y ta Γ dInt m) (h2 : Re tx Y tb Γ dSet n) : We tx Y (tOp (rSIn Y.w) ta tb) Γ dBool (m >>= fun x => n >>= fun s => .ok (memB x s.l)) := we_p2 (f := fun (x : Int) (s : IS) => memB x s.l) (fun k h => w_inS h) h h2
theorem we_notinS {m : M Int} {n : M IS} (h : Re tx Y ta Γ dInt m) (h2 : Re tx Y tb Γ dSet n) : We tx Y (tOp (rSNotIn Y.w) ta tb) Γ dBool (m >>= fun x => n >>= fun s => .ok (!memB x s.l)) := we_p2 (f := fun (x : Int) (s : IS) => !memB x s.l) (fun k h => w_notinS h) h h2
theorem w_inD [de : @DE α d] [DecidableEq α] {kb : Bool → Prop} (hd : de.dep + 1 ≤ 64) (h : R Y ta Γ d fun x => R Y tb Γ (dList (d := d)) fun xs => kb (decide (x ∈ xs))) : W Y (tOp (rInP Y.K false) ta tb) Γ dBool kb := fun e F σ H s Q q => h e F σ H s _ fun v1 F1 H1 x h1 g1 r1 => h1 e F1 σ H1 (s.grow g1) _ fun v2 F2 H2 xs ky g2 ⟨a, vs, e2, h2, r2⟩ => by
  subst e2
  refine ⟨de.toD x, xs.map de.toD, de.dp (d.mono g2.hh0 r1), .inl (.lst h2 (dpAll_of r2)), de_shaped (Nat.le_trans (Nat.le_succ _) hd) x, layAll_of xs, q _ F2 H2 _ ky (g1.trans0 g2) ?_⟩
  show V.bl _ = V.bl _
  congr 1
  rw [List.any_map]
  have : (fun z => PyData.eqv (de.toD z) (de.toD x)) = fun z => decide (z = x) := funext fun z => de_eqv z x
  show List.any xs (fun z => PyData.eqv (de.toD z) (de.toD x)) = _
  rw [this, Bool.eq_iff_iff]
  simp
theorem we_inD [de : @DE α d] [DecidableEq α] {m : M α} {n : M (List α)} (hd : de.dep + 1 ≤ 64) (h : Re tx Y ta Γ d m) (h2 : Re tx Y tb Γ (dList (d := d)) n) : We tx Y (tOp (rInP Y.K false) ta tb) Γ dBool (m >>= fun x => n >>= fun xs => .ok (memB x xs)) := we_p2 (f := fun (x : α) xs => memB x xs) (fun k h => w_inD hd h) h h2
theorem we_isi [ty : @Ty α d] {c : String} {b : Bool} {m : M α} (hk : PySem.W.kitOne Y.K (.type ty.tn) (.type c) = some b) (h : Re tx Y ta Γ d m) : We tx Y (tCB (rIsi Y.K) (tCons ta (tCons (tC (.ty c)) tNil))) Γ dBool (m >>= fun _ => .ok b) := we_p1 (f := fun _ : α => b) (fun k h => w_isi hk h) h
/-! tuples, lists -/
theorem we_tup2 {m : M α} {n : M β} (h : We tx Y ta Γ d m) (h2 : We tx Y tb Γ d2 n) : We tx Y (tTup (tCons ta (tCons tb tNil))) Γ (dPair (d1 := d) (d2 := d2)) (m >>= fun x => n >>= fun y => .ok (x, y)) := fun nb xk =>
  w_tup2 (h.k nb xk fun x e nb xk => h2.k nb xk fun y e2 nb xk => by rw [e]; show (n >>= _) = _; rw [e2]; rfl)
theorem we_tup3 {m : M α} {n : M β} {o : M γ} (h : We tx Y ta Γ d m) (h2 : We tx Y tb Γ d2 n) (h3 : We tx Y tc Γ d3 o) : We tx Y (tTup (tCons ta (tCons tb (tCons tc tNil)))) Γ (dT3 (d1 := d) (d2 := d2) (d3 := d3)) (m >>= fun x => n >>= fun y => o >>= fun z => .ok ⟨x, y, z⟩) := fun nb xk =>
  w_tup3 (h.k nb xk fun x e nb xk => h2.k nb xk fun y e2 nb xk => h3.k nb xk fun z e3 nb xk => by rw [e]; show (n >>= _) = _; rw [e2]; show (o >>= _) = _; rw [e3]; rfl)
theorem we_tup4 {m : M α} {n : M β} {o : M γ} {p : M δ} (h : We tx Y ta Γ d m) (h2 : We tx Y tb Γ d2 n) (h3 : We tx Y tc Γ d3 o) (h4 : We tx Y td Γ d4 p) : We tx Y (tTup (tCons ta (tCons tb (tCons tc (tCons td tNil))))) Γ (dT4 (d1 := d) (d2 := d2) (d3 := d3) (d4 := d4)) (m >>= fun x => n >>= fun y => o >>= fun z => p >>= fun u => .ok ⟨x, y, z, u⟩) := fun nb xk =>
  w_tup4 (h.k nb xk fun x e nb xk => h2.k nb xk fun y e2 nb xk => h3.k nb xk fun z e3 nb xk => h4.k nb xk fun u e4 nb xk => by rw [e]; show (n >>= _) = _; rw [e2]; show (o >>= _) = _; rw [e3]; show (p >>= _) = _; rw [e4]; rfl)
def WLe (tx : XC → Addr) (Y : YC) (ta : TA) (Γ : List Cell) {α : Type} (d : Dat α) (m : M (List α)) : Prop := m.nb → XkM tx Y Γ m → WL Y ta Γ d (m = .ok ·)
theorem wl_mono {tl : TA} {k k' : List α → Prop} (h : WL Y tl Γ d k) (m : ∀ x, k x → k' x) : WL Y tl Γ d k' := fun e F σ H s Q q => h e F σ H s Q fun v F' H' x kx g r => q v F' H' x (m x kx) g r
theorem wle_nil : WLe tx Y tNil Γ d (.ok []) := fun _ _ => wl_nil rfl
theorem wle_cons {tr : TA} {m : M α} {n : M (List α)} (h : We tx Y te Γ d m) (h2 : WLe tx Y tr Γ d n) : WLe tx Y (tCons te tr) Γ d (m >>= fun x => n >>= fun xs => .ok (x :: xs)) := fun nb xk => wl_cons (h.k nb xk fun x e nb xk => wl_mono (h2 (M.nb1 nb) xk.l) fun xs e2 => by rw [e]; show (n >>= _) = _; rw [e2]; rfl)
theorem oe_lst {tl : TA} {m : M (List α)} (h : WLe tx Y tl Γ d m) (hl : ∀ xs, m = .ok xs → xs.length ≤ PySem.sizeLine) : Oe tx Y (tLst tl) Γ (oList (d := d)) m := fun nb xk => o_lst (wl_mono (h nb xk) fun xs e => ⟨hl xs e, e⟩)
/-- a display of n items -/
theorem wle_len {tl : TA} : True := trivial
theorem oe_lst0 : Oe tx Y (tLst tNil) Γ (oList (d := d)) (.ok []) := fun _ _ => o_nil rfl
theorem oe_nilDeep {od : @OD α d} : Oe tx Y (tLst tNil) Γ (oDeep od) (.ok []) := fun _ _ => o_nilDeep rfl
def asLen (n : Nat) (m : M (List α)) : Prop := ∀ xs, m = .ok xs → xs.length = n
theorem asLen0 : asLen 0 (.ok ([] : List α)) := fun xs e => by cases e; rfl
theorem asLenS {n : Nat} {m : M α} {o : M (List α)} (h : asLen n o) : asLen (n + 1) (m >>= fun x => o >>= fun xs => .ok (x :: xs)) := fun xs e => by
  cases m with
  | bad => cases e
  | exc x => cases e
  | ok x => cases ho : o with
    | bad => rw [ho] at e; cases e
    | exc x => rw [ho] at e; cases e
    | ok ys => rw [ho] at e; cases e; simp [h ys ho]
theorem oe_lstN {n : Nat} {tl : TA} {m : M (List α)} (h : WLe tx Y tl Γ d m) (hl : asLen n m) (hn : n ≤ 1000) : Oe tx Y (tLst tl) Γ (oList (d := d)) m := oe_lst h fun xs e => by rw [hl xs e]; exact Nat.le_of_lt (small1k (by omega))
theorem oe_listOf {m : M (List α)} (h : We tx Y ta Γ (dList (d := d)) m) : Oe tx Y (tCB (fun xs H Q => ∃ p ys, xs = [.ref p] ∧ (SqL Y.K H p ys ∨ SqT Y.K H p ys) ∧ ∀ l, H l = none → Q (.ref l) (upd H l (.lst ys))) (tCons ta tNil)) Γ (oList (d := d)) m := oe_eq (oe_p1w (f := fun x : List α => x) (fun k h => o_listOf h) h) (M.bind_ok m)
theorem oe_listOfT {m : M (Tup α)} (h : We tx Y ta Γ (dTup (d := d)) m) : Oe tx Y (tCB (fun xs H Q => ∃ p ys, xs = [.ref p] ∧ (SqL Y.K H p ys ∨ SqT Y.K H p ys) ∧ ∀ l, H l = none → Q (.ref l) (upd H l (.lst ys))) (tCons ta tNil)) Γ (oList (d := d)) (m >>= fun xs => .ok xs.l) := oe_p1w (f := fun x : Tup α => x.l) (fun k h => o_listOfT h) h
theorem oe_listOfO [i : @Imm α d] {m : M (List α)} (h : Re tx Y ta Γ (dList (d := d)) m) : Oe tx Y (tCB (fun xs H Q => ∃ p ys, xs = [.ref p] ∧ (SqL Y.K H p ys ∨ SqT Y.K H p ys) ∧ ∀ l, H l = none → Q (.ref l) (upd H l (.lst ys))) (tCons ta tNil)) Γ (oList (d := d)) m := oe_eq (oe_p1 (f := fun x : List α => x) (fun k h => o_listOfO h) h) (M.bind_ok m)
theorem oe_listOfQ {m : M (Sq α)} (h : We tx Y ta Γ (dSq (d := d)) m) : Oe tx Y (tCB (fun xs H Q => ∃ p ys, xs = [.ref p] ∧ (SqL Y.K H p ys ∨ SqT Y.K H p ys) ∧ ∀ l, H l = none → Q (.ref l) (upd H l (.lst ys))) (tCons ta tNil)) Γ (oList (d := d)) (m >>= fun xs => .ok xs.l) := oe_p1w (f := fun x : Sq α => x.l) (fun k h => o_listOfQ h) h
theorem we_tupOf {m : M (List α)} (h : We tx Y ta Γ (dList (d := d)) m) : We tx Y (tCB (fun xs H Q => ∃ p ys, xs = [.ref p] ∧ ((SqL Y.K H p ys ∧ ∀ l, H l = none → Q (.ref l) (upd H l (.tup ys))) ∨ (SqT Y.K H p ys ∧ Q (.ref p) H))) (tCons ta tNil)) Γ (dTup (d := d)) (m >>= fun xs => .ok ⟨xs⟩) := we_p1w (f := fun x : List α => (⟨x⟩ : Tup α)) (fun k h => w_tupOf h) h
theorem we_tupOfQ {m : M (Sq α)} (h : We tx Y ta Γ (dSq (d := d)) m) : We tx Y (tCB (fun xs H Q => ∃ p ys, xs = [.ref p] ∧ ((SqL Y.K H p ys ∧ ∀ l, H l = none → Q (.ref l) (upd H l (.tup ys))) ∨ (SqT Y.K H p ys ∧ Q (.ref p) H))) (tCons ta tNil)) Γ (dTup (d := d)) (m >>= fun xs => .ok ⟨xs.l⟩) := we_p1w (f := fun x : Sq α => (⟨x.l⟩ : Tup α)) (fun k h => w_tupOfQ h) h
theorem we_sqL {m : M (List α)} (h : We tx Y te Γ (dList (d := d)) m) : We tx Y te Γ (dSq (d := d)) (m >>= fun xs => .ok ⟨xs⟩) := we_p1w (f := fun x : List α => (⟨x⟩ : Sq α)) (fun k h => w_sqL h) h
theorem we_sqT {m : M (Tup α)} (h : We tx Y te Γ (dTup (d := d)) m) : We tx Y te Γ (dSq (d := d)) (m >>= fun xs => .ok ⟨xs.l⟩) := we_p1w (f := fun x : Tup α => (⟨x.l⟩ : Sq α)) (fun k h => w_sqT h) h
theorem oe_sorted {m : M (List Int)} (h : Re tx Y ta Γ (dList (d := dInt)) m) : Oe tx Y (tCB (rSortedI Y.K) (tCons ta tNil)) Γ (oList (d := dInt)) (m >>= fun xs => .ok (isort xs)) := oe_p1 (f := isort) (fun k h => o_sorted h) h
theorem oe_sortedQ {m : M (Sq Int)} (h : Re tx Y ta Γ (dSq (d := dInt)) m) : Oe tx Y (tCB (rSortedQ Y.K) (tCons ta tNil)) Γ (oList (d := dInt)) (m >>= fun xs => .ok (isort xs.l)) := oe_p1 (f := fun xs : Sq Int => isort xs.l) (fun k h => o_sortedQ h) h
/-! slices -/
def TOe (tx : XC → Addr) (Y : YC) (to : TO) (Γ : List Cell) (m : M (Option Int)) : Prop := m.nb → XkM tx Y Γ m → TOk Y to Γ (m = .ok ·)
theorem toe_none : TOe tx Y tNoPart Γ (.ok none) := fun _ _ => to_none rfl
theorem toe_some {m : M Int} (h : Re tx Y te Γ dInt m) : TOe tx Y (tPart te) Γ (m >>= fun n => .ok (some n)) := fun nb xk => to_some (h.k nb xk fun n e _ _ => by rw [e]; rfl)
theorem to_mono {to : TO} {k k' : Option Int → Prop} (h : TOk Y to Γ k) (m : ∀ x, k x → k' x) : TOk Y to Γ k' := fun e F σ H s Q q => h e F σ H s Q fun v F' H' kx g => q v F' H' (m v kx) g
theorem oe_sl {tl th : TO} {m : M (List α)} {n o : M (Option Int)} (h : We tx Y te Γ (dList (d := d)) m) (h2 : TOe tx Y tl Γ n) (h3 : TOe tx Y th Γ o) : Oe tx Y (tSl (rSlL Y.K) te tl th) Γ (oList (d := d)) (m >>= fun xs => n >>= fun lo => o >>= fun hi => .ok (cutL xs lo hi)) := fun nb xk =>
  o_sl (h.k nb xk fun xs e nb xk => to_mono (h2 (M.nb1 nb) xk.l) fun lo e2 => to_mono (h3 (M.nb1 (f := fun hi => .ok (cutL xs lo hi)) (M.nb2 (f := fun lo => o >>= fun hi => .ok (cutL xs lo hi)) nb e2)) (XkM.l (f := fun hi => .ok (cutL xs lo hi)) (XkM.r (f := fun lo => o >>= fun hi => .ok (cutL xs lo hi)) xk e2))) fun hi e3 => by rw [e]; show (n >>= _) = _; rw [e2]; show (o >>= _) = _; rw [e3]; rfl)
/-! fields -/
theorem we_fld {C0 : Addr} {f : Str} {g : α → β} {m : M α} (hf : IsF d C0 f d2 g) (c : Cls Y.K C0) (n : NoAttr Y.K C0 f) (h : We tx Y te Γ d m) : We tx Y (tFld Y.K te f) Γ d2 (m >>= fun x => .ok (g x)) := we_p1w (fun k h => w_fld hf c n h) h
theorem re_fld {C0 : Addr} {f : Str} {g : α → β} {m : M α} (hf : IsF d C0 f d2 g) (c : Cls Y.K C0) (n : NoAttr Y.K C0 f) (h : Re tx Y te Γ d m) : Re tx Y (tFld Y.K te f) Γ d2 (m >>= fun x => .ok (g x)) := re_p1 (fun k h => r_fld hf c n h) h
theorem we_con {C0 : Addr} {f : Str} {ns : List Str} {n : Int} {u : Value} {m : M α} (hf : IsI d C0 ns) (c : Cls Y.K C0) (k0 : Con Y.K C0 f (.int n) u) (hn : f ∉ ns) (h : Re tx Y te Γ d m) : We tx Y (tCon Y.K te f) Γ dInt (m >>= fun _ => .ok n) := we_p1 (f := fun _ : α => n) (fun k h => w_con hf c k0 hn h) h
end
section
variable {tx : XC → Addr} {Y : YC} {Γ : List Cell} {β : Type} {d : Dat β} {t1 t2 t3 t4 t5 t6 t7 : TE} {sp : Sp} {E : L2.St → XK}
variable {α0 α1 α2 α3 α4 α5 α6 α7 : Type} {d0 : Dat α0} {d1 : Dat α1} {d2 : Dat α2} {d3 : Dat α3} {d4 : Dat α4} {d5 : Dat α5} {d6 : Dat α6} {d7 : Dat α7} {m0 : M α0} {m1 : M α1} {m2 : M α2} {m3 : M α3} {m4 : M α4} {m5 : M α5} {m6 : M α6} {m7 : M α7} {t0 : TE}
theorem we_call0 {f : M β} (hs : f.nb → SpX Y.g sp [] (fun c => ∃ r, c = .val d r ∧ f = .ok r) fun x => ∃ px, f = .exc px ∧ x = px.x tx) (hE : E = Y.E) : We tx Y (tCallS sp E tNil) Γ d (f) := fun nb xk => w_callX hE (wa_nil fun vs H Q E fx => hs  nb vs H Q E (fx.mono (fun c ⟨r, e, q⟩ => ⟨r, e, q⟩) fun x ⟨px, e, q⟩ => q ▸ xk px e))
theorem we_call1 {f : α1 → M β} (hs : ∀ x1, (f x1).nb → SpX Y.g sp [.val d1 x1] (fun c => ∃ r, c = .val d r ∧ (f x1) = .ok r) fun x => ∃ px, (f x1) = .exc px ∧ x = px.x tx) (hE : E = Y.E) (h1 : We tx Y t1 Γ d1 m1) : We tx Y (tCallS sp E (tCons t1 tNil)) Γ d (m1 >>= fun x1 => f x1) := fun nb xk => w_callX hE (wa_cons (h1.k nb xk fun x1 e1 nb xk => wa_nil fun vs H Q E fx => hs x1 nb vs H Q E (fx.mono (fun c ⟨r, e, q⟩ => ⟨r, e, by rw [e1]; exact q⟩) fun x ⟨px, e, q⟩ => q ▸ xk px e)))
theorem we_call2 {f : α1 → α2 → M β} (hs : ∀ x1 x2, (f x1 x2).nb → SpX Y.g sp [.val d1 x1, .val d2 x2] (fun c => ∃ r, c = .val d r ∧ (f x1 x2) = .ok r) fun x => ∃ px, (f x1 x2) = .exc px ∧ x = px.x tx) (hE : E = Y.E) (h1 : We tx Y t1 Γ d1 m1) (h2 : We tx Y t2 Γ d2 m2) : We tx Y (tCallS sp E (tCons t1 (tCons t2 tNil))) Γ d (m1 >>= fun x1 => m2 >>= fun x2 => f x1 x2) := fun nb xk => w_callX hE (wa_cons (h1.k nb xk fun x1 e1 nb xk => wa_cons (h2.k nb xk fun x2 e2 nb xk => wa_nil fun vs H Q E fx => hs x1 x2 nb vs H Q E (fx.mono (fun c ⟨r, e, q⟩ => ⟨r, e, by rw [e1]; show (m2 >>= _) = _; rw [e2]; exact q⟩) fun x ⟨px, e, q⟩ => q ▸ xk px e))))
theorem we_call3 {f : α1 → α2 → α3 → M β} (hs : ∀ x1 x2 x3, (f x1 x2 x3).nb → SpX Y.g sp [.val d1 x1, .val d2 x2, .val d3 x3] (fun c => ∃ r, c = .val d r ∧ (f x1 x2 x3) = .ok r) fun x => ∃ px, (f x1 x2 x3) = .exc px ∧ x = px.x tx) (hE : E = Y.E) (h1 : We tx Y t1 Γ d1 m1) (h2 : We tx Y t2 Γ d2 m2) (h3 : We tx Y t3 Γ d3 m3) : We tx Y (tCallS sp E (tCons t1 (tCons t2 (tCons t3 tNil)))) Γ d (m1 >>= fun x1 => m2 >>= fun x2 => m3 >>= fun x3 => f x1 x2 x3) := fun nb xk => w_callX hE (wa_cons (h1.k nb xk fun x1 e1 nb xk => wa_cons (h2.k nb xk fun x2 e2 nb xk => wa_cons (h3.k nb xk fun x3 e3 nb xk => wa_nil fun vs H Q E fx => hs x1 x2 x3 nb vs H Q E (fx.mono (fun c ⟨r, e, q⟩ => ⟨r, e, by rw [e1]; show (m2 >>= _) = _; rw [e2]; show (m3 >>= _) = _; rw [e3]; exact q⟩) fun x ⟨px, e, q⟩ => q ▸ xk px e)))))
theorem we_call4 {f : α1 → α2 → α3 → α4 → M β} (hs : ∀ x1 x2 x3 x4, (f x1 x2 x3 x4).nb → SpX Y.g sp [.val d1 x1, .val d2 x2, .val d3 x3, .val d4 x4] (fun c => ∃ r, c = .val d r ∧ (f x1 x2 x3 x4) = .ok r) fun x => ∃ px, (f x1 x2 x3 x4) = .exc px ∧ x = px.x tx) (hE : E = Y.E) (h1 : We tx Y t1 Γ d1 m1) (h2 : We tx Y t2 Γ d2 m2) (h3 : We tx Y t3 Γ d3 m3) (h4 : We tx Y t4 Γ d4 m4) : We tx Y (tCallS sp E (tCons t1 (tCons t2 (tCons t3 (tCons t4 tNil))))) Γ d (m1 >>= fun x1 => m2 >>= fun x2 => m3 >>= fun x3 => m4 >>= fun x4 => f x1 x2 x3 x4) := fun nb xk => w_callX hE (wa_cons (h1.k nb xk fun x1 e1 nb xk => wa_cons (h2.k nb xk fun x2 e2 nb xk => wa_cons (h3.k nb xk fun x3 e3 nb xk => wa_cons (h4.k nb xk fun x4 e4 nb xk => wa_nil fun vs H Q E fx => hs x1 x2 x3 x4 nb vs H Q E (fx.mono (fun c ⟨r, e, q⟩ => ⟨r, e, by rw [e1]; show (m2 >>= _) = _; rw [e2]; show (m3 >>= _) = _; rw [e3]; show (m4 >>= _) = _; rw [e4]; exact q⟩) fun x ⟨px, e, q⟩ => q ▸ xk px e))))))
theorem we_call5 {f : α1 → α2 → α3 → α4 → α5 → M β} (hs : ∀ x1 x2 x3 x4 x5, (f x1 x2 x3 x4 x5).nb → SpX Y.g sp [.val d1 x1, .val d2 x2, .val d3 x3, .val d4 x4, .val d5 x5] (fun c => ∃ r, c = .val d r ∧ (f x1 x2 x3 x4 x5) = .ok r) fun x => ∃ px, (f x1 x2 x3 x4 x5) = .exc px ∧ x = px.x tx) (hE : E = Y.E) (h1 : We tx Y t1 Γ d1 m1) (h2 : We tx Y t2 Γ d2 m2) (h3 : We tx Y t3 Γ d3 m3) (h4 : We tx Y t4 Γ d4 m4) (h5 : We tx Y t5 Γ d5 m5) : We tx Y (tCallS sp E (tCons t1 (tCons t2 (tCons t3 (tCons t4 (tCons t5 tNil)))))) Γ d (m1 >>= fun x1 => m2 >>= fun x2 => m3 >>= fun x3 => m4 >>= fun x4 => m5 >>= fun x5 => f x1 x2 x3 x4 x5) := fun nb xk => w_callX hE (wa_cons (h1.k nb xk fun x1 e1 nb xk => wa_cons (h2.k nb xk fun x2 e2 nb xk => wa_cons (h3.k nb xk fun x3 e3 nb xk => wa_cons (h4.k nb xk fun x4 e4 nb xk => wa_cons (h5.k nb xk fun x5 e5 nb xk => wa_nil fun vs H Q E fx => hs x1 x2 x3 x4 x5 nb vs H Q E (fx.mono (fun c ⟨r, e, q⟩ => ⟨r, e, by rw [e1]; show (m2 >>= _) = _; rw [e2]; show (m3 >>= _) = _; rw [e3]; show (m4 >>= _) = _; rw [e4]; show (m5 >>= _) = _; rw [e5]; exact q⟩) fun x ⟨px, e, q⟩ => q ▸ xk px e)))))))
theorem we_call6 {f : α1 → α2 → α3 → α4 → α5 → α6 → M β} (hs : ∀ x1 x2 x3 x4 x5 x6, (f x1 x2 x3 x4 x5 x6).nb → SpX Y.g sp [.val d1 x1, .val d2 x2, .val d3 x3, .val d4 x4, .val d5 x5, .val d6 x6] (fun c => ∃ r, c = .val d r ∧ (f x1 x2 x3 x4 x5 x6) = .ok r) fun x => ∃ px, (f x1 x2 x3 x4 x5 x6) = .exc px ∧ x = px.x tx) (hE : E = Y.E) (h1 : We tx Y t1 Γ d1 m1) (h2 : We tx Y t2 Γ d2 m2) (h3 : We tx Y t3 Γ d3 m3) (h4 : We tx Y t4 Γ d4 m4) (h5 : We tx Y t5 Γ d5 m5) (h6 : We tx Y t6 Γ d6 m6) : We tx Y (tCallS sp E (tCons t1 (tCons t2 (tCons t3 (tCons t4 (tCons t5 (tCons t6 tNil))))))) Γ d (m1 >>= fun x1 => m2 >>= fun x2 => m3 >>= fun x3 => m4 >>= fun x4 => m5 >>= fun x5 => m6 >>= fun x6 => f x1 x2 x3 x4 x5 x6) := fun nb xk => w_callX hE (wa_cons (h1.k nb xk fun x1 e1 nb xk => wa_cons (h2.k nb xk fun x2 e2 nb xk => wa_cons (h3.k nb xk fun x3 e3 nb xk => wa_cons (h4.k nb xk fun x4 e4 nb xk => wa_cons (h5.k nb xk fun x5 e5 nb xk => wa_cons (h6.k nb xk fun x6 e6 nb xk => wa_nil fun vs H Q E fx => hs x1 x2 x3 x4 x5 x6 nb vs H Q E (fx.mono (fun c ⟨r, e, q⟩ => ⟨r, e, by rw [e1]; show (m2 >>= _) = _; rw [e2]; show (m3 >>= _) = _; rw [e3]; show (m4 >>= _) = _; rw [e4]; show (m5 >>= _) = _; rw [e5]; show (m6 >>= _) = _; rw [e6]; exact q⟩) fun x ⟨px, e, q⟩ => q ▸ xk px e))))))))
theorem we_call7 {f : α1 → α2 → α3 → α4 → α5 → α6 → α7 → M β} (hs : ∀ x1 x2 x3 x4 x5 x6 x7, (f x1 x2 x3 x4 x5 x6 x7).nb → SpX Y.g sp [.val d1 x1, .val d2 x2, .val d3 x3, .val d4 x4, .val d5 x5, .val d6 x6, .val d7 x7] (fun c => ∃ r, c = .val d r ∧ (f x1 x2 x3 x4 x5 x6 x7) = .ok r) fun x => ∃ px, (f x1 x2 x3 x4 x5 x6 x7) = .exc px ∧ x = px.x tx) (hE : E = Y.E) (h1 : We tx Y t1 Γ d1 m1) (h2 : We tx Y t2 Γ d2 m2) (h3 : We tx Y t3 Γ d3 m3) (h4 : We tx Y t4 Γ d4 m4) (h5 : We tx Y t5 Γ d5 m5) (h6 : We tx Y t6 Γ d6 m6) (h7 : We tx Y t7 Γ d7 m7) : We tx Y (tCallS sp E (tCons t1 (tCons t2 (tCons t3 (tCons t4 (tCons t5 (tCons t6 (tCons t7 tNil)))))))) Γ d (m1 >>= fun x1 => m2 >>= fun x2 => m3 >>= fun x3 => m4 >>= fun x4 => m5 >>= fun x5 => m6 >>= fun x6 => m7 >>= fun x7 => f x1 x2 x3 x4 x5 x6 x7) := fun nb xk => w_callX hE (wa_cons (h1.k nb xk fun x1 e1 nb xk => wa_cons (h2.k nb xk fun x2 e2 nb xk => wa_cons (h3.k nb xk fun x3 e3 nb xk => wa_cons (h4.k nb xk fun x4 e4 nb xk => wa_cons (h5.k nb xk fun x5 e5 nb xk => wa_cons (h6.k nb xk fun x6 e6 nb xk => wa_cons (h7.k nb xk fun x7 e7 nb xk => wa_nil fun vs H Q E fx => hs x1 x2 x3 x4 x5 x6 x7 nb vs H Q E (fx.mono (fun c ⟨r, e, q⟩ => ⟨r, e, by rw [e1]; show (m2 >>= _) = _; rw [e2]; show (m3 >>= _) = _; rw [e3]; show (m4 >>= _) = _; rw [e4]; show (m5 >>= _) = _; rw [e5]; show (m6 >>= _) = _; rw [e6]; show (m7 >>= _) = _; rw [e7]; exact q⟩) fun x ⟨px, e, q⟩ => q ▸ xk px e)))))))))
theorem we_meth0 {C0 : Addr} {mn : Str} {ns : List Str} {f : α0 → M β} (hs : ∀ x0, (f x0).nb → SpX Y.g sp [.val d0 x0] (fun c => ∃ r, c = .val d r ∧ (f x0) = .ok r) fun x => ∃ px, (f x0) = .exc px ∧ x = px.x tx) (hE : E = Y.E) (hI : IsI d0 C0 ns) (hm : mn ∉ ns) (h0 : We tx Y t0 Γ d0 m0) : We tx Y (tMethE C0 mn sp E t0 tNil) Γ d (m0 >>= fun x0 => f x0) := fun nb xk => w_methE hE hI hm (h0.k nb xk fun x0 e0 nb xk => wa_nil fun vs H Q E fx => hs x0 nb vs H Q E (fx.mono (fun c ⟨r, e, q⟩ => ⟨r, e, by rw [e0]; exact q⟩) fun x ⟨px, e, q⟩ => q ▸ xk px e))
theorem we_meth1 {C0 : Addr} {mn : Str} {ns : List Str} {f : α0 → α1 → M β} (hs : ∀ x0 x1, (f x0 x1).nb → SpX Y.g sp [.val d0 x0, .val d1 x1] (fun c => ∃ r, c = .val d r ∧ (f x0 x1) = .ok r) fun x => ∃ px, (f x0 x1) = .exc px ∧ x = px.x tx) (hE : E = Y.E) (hI : IsI d0 C0 ns) (hm : mn ∉ ns) (h0 : We tx Y t0 Γ d0 m0) (h1 : We tx Y t1 Γ d1 m1) : We tx Y (tMethE C0 mn sp E t0 (tCons t1 tNil)) Γ d (m0 >>= fun x0 => m1 >>= fun x1 => f x0 x1) := fun nb xk => w_methE hE hI hm (h0.k nb xk fun x0 e0 nb xk => wa_cons (h1.k nb xk fun x1 e1 nb xk => wa_nil fun vs H Q E fx => hs x0 x1 nb vs H Q E (fx.mono (fun c ⟨r, e, q⟩ => ⟨r, e, by rw [e0]; show (m1 >>= _) = _; rw [e1]; exact q⟩) fun x ⟨px, e, q⟩ => q ▸ xk px e)))
theorem we_meth2 {C0 : Addr} {mn : Str} {ns : List Str} {f : α0 → α1 → α2 → M β} (hs : ∀ x0 x1 x2, (f x0 x1 x2).nb → SpX Y.g sp [.val d0 x0, .val d1 x1, .val d2 x2] (fun c => ∃ r, c = .val d r ∧ (f x0 x1 x2) = .ok r) fun x => ∃ px, (f x0 x1 x2) = .exc px ∧ x = px.x tx) (hE : E = Y.E) (hI : IsI d0 C0 ns) (hm : mn ∉ ns) (h0 : We tx Y t0 Γ d0 m0) (h1 : We tx Y t1 Γ d1 m1) (h2 : We tx Y t2 Γ d2 m2) : We tx Y (tMethE C0 mn sp E t0 (tCons t1 (tCons t2 tNil))) Γ d (m0 >>= fun x0 => m1 >>= fun x1 => m2 >>= fun x2 => f x0 x1 x2) := fun nb xk => w_methE hE hI hm (h0.k nb xk fun x0 e0 nb xk => wa_cons (h1.k nb xk fun x1 e1 nb xk => wa_cons (h2.k nb xk fun x2 e2 nb xk => wa_nil fun vs H Q E fx => hs x0 x1 x2 nb vs H Q E (fx.mono (fun c ⟨r, e, q⟩ => ⟨r, e, by rw [e0]; show (m1 >>= _) = _; rw [e1]; show (m2 >>= _) = _; rw [e2]; exact q⟩) fun x ⟨px, e, q⟩ => q ▸ xk px e))))
theorem we_meth3 {C0 : Addr} {mn : Str} {ns : List Str} {f : α0 → α1 → α2 → α3 → M β} (hs : ∀ x0 x1 x2 x3, (f x0 x1 x2 x3).nb → SpX Y.g sp [.val d0 x0, .val d1 x1, .val d2 x2, .val d3 x3] (fun c => ∃ r, c = .val d r ∧ (f x0 x1 x2 x3) = .ok r) fun x => ∃ px, (f x0 x1 x2 x3) = .exc px ∧ x = px.x tx) (hE : E = Y.E) (hI : IsI d0 C0 ns) (hm : mn ∉ ns) (h0 : We tx Y t0 Γ d0 m0) (h1 : We tx Y t1 Γ d1 m1) (h2 : We tx Y t2 Γ d2 m2) (h3 : We tx Y t3 Γ d3 m3) : We tx Y (tMethE C0 mn sp E t0 (tCons t1 (tCons t2 (tCons t3 tNil)))) Γ d (m0 >>= fun x0 => m1 >>= fun x1 => m2 >>= fun x2 => m3 >>= fun x3 => f x0 x1 x2 x3) := fun nb xk => w_methE hE hI hm (h0.k nb xk fun x0 e0 nb xk => wa_cons (h1.k nb xk fun x1 e1 nb xk => wa_cons (h2.k nb xk fun x2 e2 nb xk => wa_cons (h3.k nb xk fun x3 e3 nb xk => wa_nil fun vs H Q E fx => hs x0 x1 x2 x3 nb vs H Q E (fx.mono (fun c ⟨r, e, q⟩ => ⟨r, e, by rw [e0]; show (m1 >>= _) = _; rw [e1]; show (m2 >>= _) = _; rw [e2]; show (m3 >>= _) = _; rw [e3]; exact q⟩) fun x ⟨px, e, q⟩ => q ▸ xk px e)))))
theorem we_meth4 {C0 : Addr} {mn : Str} {ns : List Str} {f : α0 → α1 → α2 → α3 → α4 → M β} (hs : ∀ x0 x1 x2 x3 x4, (f x0 x1 x2 x3 x4).nb → SpX Y.g sp [.val d0 x0, .val d1 x1, .val d2 x2, .val d3 x3, .val d4 x4] (fun c => ∃ r, c = .val d r ∧ (f x0 x1 x2 x3 x4) = .ok r) fun x => ∃ px, (f x0 x1 x2 x3 x4) = .exc px ∧ x = px.x tx) (hE : E = Y.E) (hI : IsI d0 C0 ns) (hm : mn ∉ ns) (h0 : We tx Y t0 Γ d0 m0) (h1 : We tx Y t1 Γ d1 m1) (h2 : We tx Y t2 Γ d2 m2) (h3 : We tx Y t3 Γ d3 m3) (h4 : We tx Y t4 Γ d4 m4) : We tx Y (tMethE C0 mn sp E t0 (tCons t1 (tCons t2 (tCons t3 (tCons t4 tNil))))) Γ d (m0 >>= fun x0 => m1 >>= fun x1 => m2 >>= fun x2 => m3 >>= fun x3 => m4 >>= fun x4 => f x0 x1 x2 x3 x4) := fun nb xk => w_methE hE hI hm (h0.k nb xk fun x0 e0 nb xk => wa_cons (h1.k nb xk fun x1 e1 nb xk => wa_cons (h2.k nb xk fun x2 e2 nb xk => wa_cons (h3.k nb xk fun x3 e3 nb xk => wa_cons (h4.k nb xk fun x4 e4 nb xk => wa_nil fun vs H Q E fx => hs x0 x1 x2 x3 x4 nb vs H Q E (fx.mono (fun c ⟨r, e, q⟩ => ⟨r, e, by rw [e0]; show (m1 >>= _) = _; rw [e1]; show (m2 >>= _) = _; rw [e2]; show (m3 >>= _) = _; rw [e3]; show (m4 >>= _) = _; rw [e4]; exact q⟩) fun x ⟨px, e, q⟩ => q ▸ xk px e))))))
theorem we_meth5 {C0 : Addr} {mn : Str} {ns : List Str} {f : α0 → α1 → α2 → α3 → α4 → α5 → M β} (hs : ∀ x0 x1 x2 x3 x4 x5, (f x0 x1 x2 x3 x4 x5).nb → SpX Y.g sp [.val d0 x0, .val d1 x1, .val d2 x2, .val d3 x3, .val d4 x4, .val d5 x5] (fun c => ∃ r, c = .val d r ∧ (f x0 x1 x2 x3 x4 x5) = .ok r) fun x => ∃ px, (f x0 x1 x2 x3 x4 x5) = .exc px ∧ x = px.x tx) (hE : E = Y.E) (hI : IsI d0 C0 ns) (hm : mn ∉ ns) (h0 : We tx Y t0 Γ d0 m0) (h1 : We tx Y t1 Γ d1 m1) (h2 : We tx Y t2 Γ d2 m2) (h3 : We tx Y t3 Γ d3 m3) (h4 : We tx Y t4 Γ d4 m4) (h5 : We tx Y t5 Γ d5 m5) : We tx Y (tMethE C0 mn sp E t0 (tCons t1 (tCons t2 (tCons t3 (tCons t4 (tCons t5 tNil)))))) Γ d (m0 >>= fun x0 => m1 >>= fun x1 => m2 >>= fun x2 => m3 >>= fun x3 => m4 >>= fun x4 => m5 >>= fun x5 => f x0 x1 x2 x3 x4 x5) := fun nb xk => w_methE hE hI hm (h0.k nb xk fun x0 e0 nb xk => wa_cons (h1.k nb xk fun x1 e1 nb xk => wa_cons (h2.k nb xk fun x2 e2 nb xk => wa_cons (h3.k nb xk fun x3 e3 nb xk => wa_cons (h4.k nb xk fun x4 e4 nb xk => wa_cons (h5.k nb xk fun x5 e5 nb xk => wa_nil fun vs H Q E fx => hs x0 x1 x2 x3 x4 x5 nb vs H Q E (fx.mono (fun c ⟨r, e, q⟩ => ⟨r, e, by rw [e0]; show (m1 >>= _) = _; rw [e1]; show (m2 >>= _) = _; rw [e2]; show (m3 >>= _) = _; rw [e3]; show (m4 >>= _) = _; rw [e4]; show (m5 >>= _) = _; rw [e5]; exact q⟩) fun x ⟨px, e, q⟩ => q ▸ xk px e)))))))
theorem oe_call0 {od : @OD β d} {f : M β} (hs : f.nb → SpX Y.g sp [] (fun c => ∃ r, c = .own d od none r ∧ f = .ok r) fun x => ∃ px, f = .exc px ∧ x = px.x tx) (hE : E = Y.E) : Oe tx Y (tCallS sp E tNil) Γ od (f) := fun nb xk => o_callX hE (wa_nil fun vs H Q E fx => hs  nb vs H Q E (fx.mono (fun c ⟨r, e, q⟩ => ⟨r, e, q⟩) fun x ⟨px, e, q⟩ => q ▸ xk px e))
theorem oe_call1 {od : @OD β d} {f : α1 → M β} (hs : ∀ x1, (f x1).nb → SpX Y.g sp [.val d1 x1] (fun c => ∃ r, c = .own d od none r ∧ (f x1) = .ok r) fun x => ∃ px, (f x1) = .exc px ∧ x = px.x tx) (hE : E = Y.E) (h1 : We tx Y t1 Γ d1 m1) : Oe tx Y (tCallS sp E (tCons t1 tNil)) Γ od (m1 >>= fun x1 => f x1) := fun nb xk => o_callX hE (wa_cons (h1.k nb xk fun x1 e1 nb xk => wa_nil fun vs H Q E fx => hs x1 nb vs H Q E (fx.mono (fun c ⟨r, e, q⟩ => ⟨r, e, by rw [e1]; exact q⟩) fun x ⟨px, e, q⟩ => q ▸ xk px e)))
theorem oe_call2 {od : @OD β d} {f : α1 → α2 → M β} (hs : ∀ x1 x2, (f x1 x2).nb → SpX Y.g sp [.val d1 x1, .val d2 x2] (fun c => ∃ r, c = .own d od none r ∧ (f x1 x2) = .ok r) fun x => ∃ px, (f x1 x2) = .exc px ∧ x = px.x tx) (hE : E = Y.E) (h1 : We tx Y t1 Γ d1 m1) (h2 : We tx Y t2 Γ d2 m2) : Oe tx Y (tCallS sp E (tCons t1 (tCons t2 tNil))) Γ od (m1 >>= fun x1 => m2 >>= fun x2 => f x1 x2) := fun nb xk => o_callX hE (wa_cons (h1.k nb xk fun x1 e1 nb xk => wa_cons (h2.k nb xk fun x2 e2 nb xk => wa_nil fun vs H Q E fx => hs x1 x2 nb vs H Q E (fx.mono (fun c ⟨r, e, q⟩ => ⟨r, e, by rw [e1]; show (m2 >>= _) = _; rw [e2]; exact q⟩) fun x ⟨px, e, q⟩ => q ▸ xk px e))))
theorem oe_call3 {od : @OD β d} {f : α1 → α2 → α3 → M β} (hs : ∀ x1 x2 x3, (f x1 x2 x3).nb → SpX Y.g sp [.val d1 x1, .val d2 x2, .val d3 x3] (fun c => ∃ r, c = .own d od none r ∧ (f x1 x2 x3) = .ok r) fun x => ∃ px, (f x1 x2 x3) = .exc px ∧ x = px.x tx) (hE : E = Y.E) (h1 : We tx Y t1 Γ d1 m1) (h2 : We tx Y t2 Γ d2 m2) (h3 : We tx Y t3 Γ d3 m3) : Oe tx Y (tCallS sp E (tCons t1 (tCons t2 (tCons t3 tNil)))) Γ od (m1 >>= fun x1 => m2 >>= fun x2 => m3 >>= fun x3 => f x1 x2 x3) := fun nb xk => o_callX hE (wa_cons (h1.k nb xk fun x1 e1 nb xk => wa_cons (h2.k nb xk fun x2 e2 nb xk => wa_cons (h3.k nb xk fun x3 e3 nb xk => wa_nil fun vs H Q E fx => hs x1 x2 x3 nb vs H Q E (fx.mono (fun c ⟨r, e, q⟩ => ⟨r, e, by rw [e1]; show (m2 >>= _) = _; rw [e2]; show (m3 >>= _) = _; rw [e3]; exact q⟩) fun x ⟨px, e, q⟩ => q ▸ xk px e)))))
theorem oe_call4 {od : @OD β d} {f : α1 → α2 → α3 → α4 → M β} (hs : ∀ x1 x2 x3 x4, (f x1 x2 x3 x4).nb → SpX Y.g sp [.val d1 x1, .val d2 x2, .val d3 x3, .val d4 x4] (fun c => ∃ r, c = .own d od none r ∧ (f x1 x2 x3 x4) = .ok r) fun x => ∃ px, (f x1 x2 x3 x4) = .exc px ∧ x = px.x tx) (hE : E = Y.E) (h1 : We tx Y t1 Γ d1 m1) (h2 : We tx Y t2 Γ d2 m2) (h3 : We tx Y t3 Γ d3 m3) (h4 : We tx Y t4 Γ d4 m4) : Oe tx Y (tCallS sp E (tCons t1 (tCons t2 (tCons t3 (tCons t4 tNil))))) Γ od (m1 >>= fun x1 => m2 >>= fun x2 => m3 >>= fun x3 => m4 >>= fun x4 => f x1 x2 x3 x4) := fun nb xk => o_callX hE (wa_cons (h1.k nb xk fun x1 e1 nb xk => wa_cons (h2.k nb xk fun x2 e2 nb xk => wa_cons (h3.k nb xk fun x3 e3 nb xk => wa_cons (h4.k nb xk fun x4 e4 nb xk => wa_nil fun vs H Q E fx => hs x1 x2 x3 x4 nb vs H Q E (fx.mono (fun c ⟨r, e, q⟩ => ⟨r, e, by rw [e1]; show (m2 >>= _) = _; rw [e2]; show (m3 >>= _) = _; rw [e3]; show (m4 >>= _) = _; rw [e4]; exact q⟩) fun x ⟨px, e, q⟩ => q ▸ xk px e))))))
theorem oe_call5 {od : @OD β d} {f : α1 → α2 → α3 → α4 → α5 → M β} (hs : ∀ x1 x2 x3 x4 x5, (f x1 x2 x3 x4 x5).nb → SpX Y.g sp [.val d1 x1, .val d2 x2, .val d3 x3, .val d4 x4, .val d5 x5] (fun c => ∃ r, c = .own d od none r ∧ (f x1 x2 x3 x4 x5) = .ok r) fun x => ∃ px, (f x1 x2 x3 x4 x5) = .exc px ∧ x = px.x tx) (hE : E = Y.E) (h1 : We tx Y t1 Γ d1 m1) (h2 : We tx Y t2 Γ d2 m2) (h3 : We tx Y t3 Γ d3 m3) (h4 : We tx Y t4 Γ d4 m4) (h5 : We tx Y t5 Γ d5 m5) : Oe tx Y (tCallS sp E (tCons t1 (tCons t2 (tCons t3 (tCons t4 (tCons t5 tNil)))))) Γ od (m1 >>= fun x1 => m2 >>= fun x2 => m3 >>= fun x3 => m4 >>= fun x4 => m5 >>= fun x5 => f x1 x2 x3 x4 x5) := fun nb xk => o_callX hE (wa_cons (h1.k nb xk fun x1 e1 nb xk => wa_cons (h2.k nb xk fun x2 e2 nb xk => wa_cons (h3.k nb xk fun x3 e3 nb xk => wa_cons (h4.k nb xk fun x4 e4 nb xk => wa_cons (h5.k nb xk fun x5 e5 nb xk => wa_nil fun vs H Q E fx => hs x1 x2 x3 x4 x5 nb vs H Q E (fx.mono (fun c ⟨r, e, q⟩ => ⟨r, e, by rw [e1]; show (m2 >>= _) = _; rw [e2]; show (m3 >>= _) = _; rw [e3]; show (m4 >>= _) = _; rw [e4]; show (m5 >>= _) = _; rw [e5]; exact q⟩) fun x ⟨px, e, q⟩ => q ▸ xk px e)))))))
theorem oe_call6 {od : @OD β d} {f : α1 → α2 → α3 → α4 → α5 → α6 → M β} (hs : ∀ x1 x2 x3 x4 x5 x6, (f x1 x2 x3 x4 x5 x6).nb → SpX Y.g sp [.val d1 x1, .val d2 x2, .val d3 x3, .val d4 x4, .val d5 x5, .val d6 x6] (fun c => ∃ r, c = .own d od none r ∧ (f x1 x2 x3 x4 x5 x6) = .ok r) fun x => ∃ px, (f x1 x2 x3 x4 x5 x6) = .exc px ∧ x = px.x tx) (hE : E = Y.E) (h1 : We tx Y t1 Γ d1 m1) (h2 : We tx Y t2 Γ d2 m2) (h3 : We tx Y t3 Γ d3 m3) (h4 : We tx Y t4 Γ d4 m4) (h5 : We tx Y t5 Γ d5 m5) (h6 : We tx Y t6 Γ d6 m6) : Oe tx Y (tCallS sp E (tCons t1 (tCons t2 (tCons t3 (tCons t4 (tCons t5 (tCons t6 tNil))))))) Γ od (m1 >>= fun x1 => m2 >>= fun x2 => m3 >>= fun x3 => m4 >>= fun x4 => m5 >>= fun x5 => m6 >>= fun x6 => f x1 x2 x3 x4 x5 x6) := fun nb xk => o_callX hE (wa_cons (h1.k nb xk fun x1 e1 nb xk => wa_cons (h2.k nb xk fun x2 e2 nb xk => wa_cons (h3.k nb xk fun x3 e3 nb xk => wa_cons (h4.k nb xk fun x4 e4 nb xk => wa_cons (h5.k nb xk fun x5 e5 nb xk => wa_cons (h6.k nb xk fun x6 e6 nb xk => wa_nil fun vs H Q E fx => hs x1 x2 x3 x4 x5 x6 nb vs H Q E (fx.mono (fun c ⟨r, e, q⟩ => ⟨r, e, by rw [e1]; show (m2 >>= _) = _; rw [e2]; show (m3 >>= _) = _; rw [e3]; show (m4 >>= _) = _; rw [e4]; show (m5 >>= _) = _; rw [e5]; show (m6 >>= _) = _; rw [e6]; exact q⟩) fun x ⟨px, e, q⟩ => q ▸ xk px e))))))))
theorem oe_call7 {od : @OD β d} {f : α1 → α2 → α3 → α4 → α5 → α6 → α7 → M β} (hs : ∀ x1 x2 x3 x4 x5 x6 x7, (f x1 x2 x3 x4 x5 x6 x7).nb → SpX Y.g sp [.val d1 x1, .val d2 x2, .val d3 x3, .val d4 x4, .val d5 x5, .val d6 x6, .val d7 x7] (fun c => ∃ r, c = .own d od none r ∧ (f x1 x2 x3 x4 x5 x6 x7) = .ok r) fun x => ∃ px, (f x1 x2 x3 x4 x5 x6 x7) = .exc px ∧ x = px.x tx) (hE : E = Y.E) (h1 : We tx Y t1 Γ d1 m1) (h2 : We tx Y t2 Γ d2 m2) (h3 : We tx Y t3 Γ d3 m3) (h4 : We tx Y t4 Γ d4 m4) (h5 : We tx Y t5 Γ d5 m5) (h6 : We tx Y t6 Γ d6 m6) (h7 : We tx Y t7 Γ d7 m7) : Oe tx Y (tCallS sp E (tCons t1 (tCons t2 (tCons t3 (tCons t4 (tCons t5 (tCons t6 (tCons t7 tNil)))))))) Γ od (m1 >>= fun x1 => m2 >>= fun x2 => m3 >>= fun x3 => m4 >>= fun x4 => m5 >>= fun x5 => m6 >>= fun x6 => m7 >>= fun x7 => f x1 x2 x3 x4 x5 x6 x7) := fun nb xk => o_callX hE (wa_cons (h1.k nb xk fun x1 e1 nb xk => wa_cons (h2.k nb xk fun x2 e2 nb xk => wa_cons (h3.k nb xk fun x3 e3 nb xk => wa_cons (h4.k nb xk fun x4 e4 nb xk => wa_cons (h5.k nb xk fun x5 e5 nb xk => wa_cons (h6.k nb xk fun x6 e6 nb xk => wa_cons (h7.k nb xk fun x7 e7 nb xk => wa_nil fun vs H Q E fx => hs x1 x2 x3 x4 x5 x6 x7 nb vs H Q E (fx.mono (fun c ⟨r, e, q⟩ => ⟨r, e, by rw [e1]; show (m2 >>= _) = _; rw [e2]; show (m3 >>= _) = _; rw [e3]; show (m4 >>= _) = _; rw [e4]; show (m5 >>= _) = _; rw [e5]; show (m6 >>= _) = _; rw [e6]; show (m7 >>= _) = _; rw [e7]; exact q⟩) fun x ⟨px, e, q⟩ => q ▸ xk px e)))))))))
theorem oe_meth0 {od : @OD β d} {C0 : Addr} {mn : Str} {ns : List Str} {f : α0 → M β} (hs : ∀ x0, (f x0).nb → SpX Y.g sp [.val d0 x0] (fun c => ∃ r, c = .own d od none r ∧ (f x0) = .ok r) fun x => ∃ px, (f x0) = .exc px ∧ x = px.x tx) (hE : E = Y.E) (hI : IsI d0 C0 ns) (hm : mn ∉ ns) (h0 : We tx Y t0 Γ d0 m0) : Oe tx Y (tMethE C0 mn sp E t0 tNil) Γ od (m0 >>= fun x0 => f x0) := fun nb xk => o_methE hE hI hm (h0.k nb xk fun x0 e0 nb xk => wa_nil fun vs H Q E fx => hs x0 nb vs H Q E (fx.mono (fun c ⟨r, e, q⟩ => ⟨r, e, by rw [e0]; exact q⟩) fun x ⟨px, e, q⟩ => q ▸ xk px e))
theorem oe_meth1 {od : @OD β d} {C0 : Addr} {mn : Str} {ns : List Str} {f : α0 → α1 → M β} (hs : ∀ x0 x1, (f x0 x1).nb → SpX Y.g sp [.val d0 x0, .val d1 x1] (fun c => ∃ r, c = .own d od none r ∧ (f x0 x1) = .ok r) fun x => ∃ px, (f x0 x1) = .exc px ∧ x = px.x tx) (hE : E = Y.E) (hI : IsI d0 C0 ns) (hm : mn ∉ ns) (h0 : We tx Y t0 Γ d0 m0) (h1 : We tx Y t1 Γ d1 m1) : Oe tx Y (tMethE C0 mn sp E t0 (tCons t1 tNil)) Γ od (m0 >>= fun x0 => m1 >>= fun x1 => f x0 x1) := fun nb xk => o_methE hE hI hm (h0.k nb xk fun x0 e0 nb xk => wa_cons (h1.k nb xk fun x1 e1 nb xk => wa_nil fun vs H Q E fx => hs x0 x1 nb vs H Q E (fx.mono (fun c ⟨r, e, q⟩ => ⟨r, e, by rw [e0]; show (m1 >>= _) = _; rw [e1]; exact q⟩) fun x ⟨px, e, q⟩ => q ▸ xk px e)))
theorem oe_meth2 {od : @OD β d} {C0 : Addr} {mn : Str} {ns : List Str} {f : α0 → α1 → α2 → M β} (hs : ∀ x0 x1 x2, (f x0 x1 x2).nb → SpX Y.g sp [.val d0 x0, .val d1 x1, .val d2 x2] (fun c => ∃ r, c = .own d od none r ∧ (f x0 x1 x2) = .ok r) fun x => ∃ px, (f x0 x1 x2) = .exc px ∧ x = px.x tx) (hE : E = Y.E) (hI : IsI d0 C0 ns) (hm : mn ∉ ns) (h0 : We tx Y t0 Γ d0 m0) (h1 : We tx Y t1 Γ d1 m1) (h2 : We tx Y t2 Γ d2 m2) : Oe tx Y (tMethE C0 mn sp E t0 (tCons t1 (tCons t2 tNil))) Γ od (m0 >>= fun x0 => m1 >>= fun x1 => m2 >>= fun x2 => f x0 x1 x2) := fun nb xk => o_methE hE hI hm (h0.k nb xk fun x0 e0 nb xk => wa_cons (h1.k nb xk fun x1 e1 nb xk => wa_cons (h2.k nb xk fun x2 e2 nb xk => wa_nil fun vs H Q E fx => hs x0 x1 x2 nb vs H Q E (fx.mono (fun c ⟨r, e, q⟩ => ⟨r, e, by rw [e0]; show (m1 >>= _) = _; rw [e1]; show (m2 >>= _) = _; rw [e2]; exact q⟩) fun x ⟨px, e, q⟩ => q ▸ xk px e))))
theorem oe_meth3 {od : @OD β d} {C0 : Addr} {mn : Str} {ns : List Str} {f : α0 → α1 → α2 → α3 → M β} (hs : ∀ x0 x1 x2 x3, (f x0 x1 x2 x3).nb → SpX Y.g sp [.val d0 x0, .val d1 x1, .val d2 x2, .val d3 x3] (fun c => ∃ r, c = .own d od none r ∧ (f x0 x1 x2 x3) = .ok r) fun x => ∃ px, (f x0 x1 x2 x3) = .exc px ∧ x = px.x tx) (hE : E = Y.E) (hI : IsI d0 C0 ns) (hm : mn ∉ ns) (h0 : We tx Y t0 Γ d0 m0) (h1 : We tx Y t1 Γ d1 m1) (h2 : We tx Y t2 Γ d2 m2) (h3 : We tx Y t3 Γ d3 m3) : Oe tx Y (tMethE C0 mn sp E t0 (tCons t1 (tCons t2 (tCons t3 tNil)))) Γ od (m0 >>= fun x0 => m1 >>= fun x1 => m2 >>= fun x2 => m3 >>= fun x3 => f x0 x1 x2 x3) := fun nb xk => o_methE hE hI hm (h0.k nb xk fun x0 e0 nb xk => wa_cons (h1.k nb xk fun x1 e1 nb xk => wa_cons (h2.k nb xk fun x2 e2 nb xk => wa_cons (h3.k nb xk fun x3 e3 nb xk => wa_nil fun vs H Q E fx => hs x0 x1 x2 x3 nb vs H Q E (fx.mono (fun c ⟨r, e, q⟩ => ⟨r, e, by rw [e0]; show (m1 >>= _) = _; rw [e1]; show (m2 >>= _) = _; rw [e2]; show (m3 >>= _) = _; rw [e3]; exact q⟩) fun x ⟨px, e, q⟩ => q ▸ xk px e)))))
theorem oe_meth4 {od : @OD β d} {C0 : Addr} {mn : Str} {ns : List Str} {f : α0 → α1 → α2 → α3 → α4 → M β} (hs : ∀ x0 x1 x2 x3 x4, (f x0 x1 x2 x3 x4).nb → SpX Y.g sp [.val d0 x0, .val d1 x1, .val d2 x2, .val d3 x3, .val d4 x4] (fun c => ∃ r, c = .own d od none r ∧ (f x0 x1 x2 x3 x4) = .ok r) fun x => ∃ px, (f x0 x1 x2 x3 x4) = .exc px ∧ x = px.x tx) (hE : E = Y.E) (hI : IsI d0 C0 ns) (hm : mn ∉ ns) (h0 : We tx Y t0 Γ d0 m0) (h1 : We tx Y t1 Γ d1 m1) (h2 : We tx Y t2 Γ d2 m2) (h3 : We tx Y t3 Γ d3 m3) (h4 : We tx Y t4 Γ d4 m4) : Oe tx Y (tMethE C0 mn sp E t0 (tCons t1 (tCons t2 (tCons t3 (tCons t4 tNil))))) Γ od (m0 >>= fun x0 => m1 >>= fun x1 => m2 >>= fun x2 => m3 >>= fun x3 => m4 >>= fun x4 => f x0 x1 x2 x3 x4) := fun nb xk => o_methE hE hI hm (h0.k nb xk fun x0 e0 nb xk => wa_cons (h1.k nb xk fun x1 e1 nb xk => wa_cons (h2.k nb xk fun x2 e2 nb xk => wa_cons (h3.k nb xk fun x3 e3 nb xk => wa_cons (h4.k nb xk fun x4 e4 nb xk => wa_nil fun vs H Q E fx => hs x0 x1 x2 x3 x4 nb vs H Q E (fx.mono (fun c ⟨r, e, q⟩ => ⟨r, e, by rw [e0]; show (m1 >>= _) = _; rw [e1]; show (m2 >>= _) = _; rw [e2]; show (m3 >>= _) = _; rw [e3]; show (m4 >>= _) = _; rw [e4]; exact q⟩) fun x ⟨px, e, q⟩ => q ▸ xk px e))))))
theorem oe_meth5 {od : @OD β d} {C0 : Addr} {mn : Str} {ns : List Str} {f : α0 → α1 → α2 → α3 → α4 → α5 → M β} (hs : ∀ x0 x1 x2 x3 x4 x5, (f x0 x1 x2 x3 x4 x5).nb → SpX Y.g sp [.val d0 x0, .val d1 x1, .val d2 x2, .val d3 x3, .val d4 x4, .val d5 x5] (fun c => ∃ r, c = .own d od none r ∧ (f x0 x1 x2 x3 x4 x5) = .ok r) fun x => ∃ px, (f x0 x1 x2 x3 x4 x5) = .exc px ∧ x = px.x tx) (hE : E = Y.E) (hI : IsI d0 C0 ns) (hm : mn ∉ ns) (h0 : We tx Y t0 Γ d0 m0) (h1 : We tx Y t1 Γ d1 m1) (h2 : We tx Y t2 Γ d2 m2) (h3 : We tx Y t3 Γ d3 m3) (h4 : We tx Y t4 Γ d4 m4) (h5 : We tx Y t5 Γ d5 m5) : Oe tx Y (tMethE C0 mn sp E t0 (tCons t1 (tCons t2 (tCons t3 (tCons t4 (tCons t5 tNil)))))) Γ od (m0 >>= fun x0 => m1 >>= fun x1 => m2 >>= fun x2 => m3 >>= fun x3 => m4 >>= fun x4 => m5 >>= fun x5 => f x0 x1 x2 x3 x4 x5) := fun nb xk => o_methE hE hI hm (h0.k nb xk fun x0 e0 nb xk => wa_cons (h1.k nb xk fun x1 e1 nb xk => wa_cons (h2.k nb xk fun x2 e2 nb xk => wa_cons (h3.k nb xk fun x3 e3 nb xk => wa_cons (h4.k nb xk fun x4 e4 nb xk => wa_cons (h5.k nb xk fun x5 e5 nb xk => wa_nil fun vs H Q E fx => hs x0 x1 x2 x3 x4 x5 nb vs H Q E (fx.mono (fun c ⟨r, e, q⟩ => ⟨r, e, by rw [e0]; show (m1 >>= _) = _; rw [e1]; show (m2 >>= _) = _; rw [e2]; show (m3 >>= _) = _; rw [e3]; show (m4 >>= _) = _; rw [e4]; show (m5 >>= _) = _; rw [e5]; exact q⟩) fun x ⟨px, e, q⟩ => q ▸ xk px e)))))))
theorem oe_make0 {od : @OD β d} {C0 : Addr} {f : M β} (hs : f.nb → SpI Y.g sp od C0 [] (fun r => f = .ok r) fun x => ∃ px, f = .exc px ∧ x = px.x tx) (hE : E = Y.E) : Oe tx Y (tMakeS C0 sp E tNil) Γ od (f) := fun nb xk => o_makeS hE (wa_nil fun vs H Q E fx => hs  nb vs H Q E (fx.mono (fun r q => q) fun x ⟨px, e, q⟩ => q ▸ xk px e))
theorem oe_make1 {od : @OD β d} {C0 : Addr} {f : α1 → M β} (hs : ∀ x1, (f x1).nb → SpI Y.g sp od C0 [.val d1 x1] (fun r => (f x1) = .ok r) fun x => ∃ px, (f x1) = .exc px ∧ x = px.x tx) (hE : E = Y.E) (h1 : We tx Y t1 Γ d1 m1) : Oe tx Y (tMakeS C0 sp E (tCons t1 tNil)) Γ od (m1 >>= fun x1 => f x1) := fun nb xk => o_makeS hE (wa_cons (h1.k nb xk fun x1 e1 nb xk => wa_nil fun vs H Q E fx => hs x1 nb vs H Q E (fx.mono (fun r q => by rw [e1]; exact q) fun x ⟨px, e, q⟩ => q ▸ xk px e)))
theorem oe_make2 {od : @OD β d} {C0 : Addr} {f : α1 → α2 → M β} (hs : ∀ x1 x2, (f x1 x2).nb → SpI Y.g sp od C0 [.val d1 x1, .val d2 x2] (fun r => (f x1 x2) = .ok r) fun x => ∃ px, (f x1 x2) = .exc px ∧ x = px.x tx) (hE : E = Y.E) (h1 : We tx Y t1 Γ d1 m1) (h2 : We tx Y t2 Γ d2 m2) : Oe tx Y (tMakeS C0 sp E (tCons t1 (tCons t2 tNil))) Γ od (m1 >>= fun x1 => m2 >>= fun x2 => f x1 x2) := fun nb xk => o_makeS hE (wa_cons (h1.k nb xk fun x1 e1 nb xk => wa_cons (h2.k nb xk fun x2 e2 nb xk => wa_nil fun vs H Q E fx => hs x1 x2 nb vs H Q E (fx.mono (fun r q => by rw [e1]; show (m2 >>= _) = _; rw [e2]; exact q) fun x ⟨px, e, q⟩ => q ▸ xk px e))))
theorem oe_make3 {od : @OD β d} {C0 : Addr} {f : α1 → α2 → α3 → M β} (hs : ∀ x1 x2 x3, (f x1 x2 x3).nb → SpI Y.g sp od C0 [.val d1 x1, .val d2 x2, .val d3 x3] (fun r => (f x1 x2 x3) = .ok r) fun x => ∃ px, (f x1 x2 x3) = .exc px ∧ x = px.x tx) (hE : E = Y.E) (h1 : We tx Y t1 Γ d1 m1) (h2 : We tx Y t2 Γ d2 m2) (h3 : We tx Y t3 Γ d3 m3) : Oe tx Y (tMakeS C0 sp E (tCons t1 (tCons t2 (tCons t3 tNil)))) Γ od (m1 >>= fun x1 => m2 >>= fun x2 => m3 >>= fun x3 => f x1 x2 x3) := fun nb xk => o_makeS hE (wa_cons (h1.k nb xk fun x1 e1 nb xk => wa_cons (h2.k nb xk fun x2 e2 nb xk => wa_cons (h3.k nb xk fun x3 e3 nb xk => wa_nil fun vs H Q E fx => hs x1 x2 x3 nb vs H Q E (fx.mono (fun r q => by rw [e1]; show (m2 >>= _) = _; rw [e2]; show (m3 >>= _) = _; rw [e3]; exact q) fun x ⟨px, e, q⟩ => q ▸ xk px e)))))
theorem oe_make4 {od : @OD β d} {C0 : Addr} {f : α1 → α2 → α3 → α4 → M β} (hs : ∀ x1 x2 x3 x4, (f x1 x2 x3 x4).nb → SpI Y.g sp od C0 [.val d1 x1, .val d2 x2, .val d3 x3, .val d4 x4] (fun r => (f x1 x2 x3 x4) = .ok r) fun x => ∃ px, (f x1 x2 x3 x4) = .exc px ∧ x = px.x tx) (hE : E = Y.E) (h1 : We tx Y t1 Γ d1 m1) (h2 : We tx Y t2 Γ d2 m2) (h3 : We tx Y t3 Γ d3 m3) (h4 : We tx Y t4 Γ d4 m4) : Oe tx Y (tMakeS C0 sp E (tCons t1 (tCons t2 (tCons t3 (tCons t4 tNil))))) Γ od (m1 >>= fun x1 => m2 >>= fun x2 => m3 >>= fun x3 => m4 >>= fun x4 => f x1 x2 x3 x4) := fun nb xk => o_makeS hE (wa_cons (h1.k nb xk fun x1 e1 nb xk => wa_cons (h2.k nb xk fun x2 e2 nb xk => wa_cons (h3.k nb xk fun x3 e3 nb xk => wa_cons (h4.k nb xk fun x4 e4 nb xk => wa_nil fun vs H Q E fx => hs x1 x2 x3 x4 nb vs H Q E (fx.mono (fun r q => by rw [e1]; show (m2 >>= _) = _; rw [e2]; show (m3 >>= _) = _; rw [e3]; show (m4 >>= _) = _; rw [e4]; exact q) fun x ⟨px, e, q⟩ => q ▸ xk px e))))))
/-- a static method by its class -/
theorem we_sm {C0 : Addr} {tl : TA} {m : M β} (h : We tx Y (tCallS sp E tl) Γ d m) : We tx Y (tSMethE C0 sp E (tC (.ref C0)) tl) Γ d m := fun nb xk e F σ H s Q q => ⟨rfl, h nb xk e F σ H s Q q⟩
theorem oe_sm {od : @OD β d} {C0 : Addr} {tl : TA} {m : M β} (h : Oe tx Y (tCallS sp E tl) Γ od m) : Oe tx Y (tSMethE C0 sp E (tC (.ref C0)) tl) Γ od m := fun nb xk e F σ H s Q q => ⟨rfl, h nb xk e F σ H s Q q⟩
/-- x in o, by its own __contains__ -/
theorem we_inO {C0 : Addr} {ns : List Str} {b0 : Bool} {f : α2 → α1 → M Bool} (hs : ∀ y x, (f y x).nb → SpX Y.g sp [.val d2 y, .val d1 x] (fun c => ∃ r, c = .val dBool r ∧ f y x = .ok r) fun x' => ∃ px, f y x = .exc px ∧ x' = px.x tx) (hI : IsI d2 C0 ns) (h1 : We tx Y t1 Γ d1 m1) (h2 : We tx Y t2 Γ d2 m2) :
    We tx Y (tOp (rInO C0 sp b0) t1 t2) Γ dBool (m1 >>= fun x => m2 >>= fun y => M.calm (f y x) >>= fun b => .ok (if b0 then !b else b)) := fun nb xk => w_inO hI (h1.k nb xk fun x e1 nb xk => h2.k nb xk fun y e2 nb xk => fun vs H Q E fx => by
  obtain ⟨b, eb⟩ := M.calm_nb (M.nb1 nb)
  refine hs y x (by rw [eb]; exact fun z => nomatch z) vs H Q E (fx.mono (fun c ⟨r, e, q⟩ => ⟨r, e, ?_⟩) fun x' ⟨px, e, q⟩ => by rw [eb] at e; cases e)
  rw [eb] at q
  cases q
  rw [e1]; show (m2 >>= _) = _; rw [e2]; show (M.calm (f y x) >>= _) = _; rw [eb]; rfl)
end
end G
end

noncomputable section
/-! M2: what is walked, comprehensions, statements: with models. -/
namespace L2
open PySem PySem.Spec PyProof.Rows
section
variable {X : Cx}
/-- what is walked is no longer than a line -/
def iListB (K : PySem.W.Frag) (tl : TE) : TI := fun σ H R => tl σ H fun x H1 => ∃ a xs, x = .ref a ∧ SqL K H1 a xs ∧ (xs.length ≤ sizeLine → R (Itl K a) H1)
def iTupB (K : PySem.W.Frag) (tl : TE) : TI := fun σ H R => tl σ H fun x H1 => ∃ a xs, x = .ref a ∧ SqT K H1 a xs ∧ (xs.length ≤ sizeLine → R (Itt K a) H1)
def iSeqB (K : PySem.W.Frag) (tl : TE) : TI := fun σ H R => tl σ H fun x H1 => ∃ a xs, x = .ref a ∧ ((SqL K H1 a xs ∧ (xs.length ≤ sizeLine → R (Itl K a) H1)) ∨ (SqT K H1 a xs ∧ (xs.length ≤ sizeLine → R (Itt K a) H1)))
theorem pi_listB {tg l : Expr} {tl : TE} (hl : PE X l tl) : PI X tg l (iListB X.K tl) := ⟨fun pins s σ H R I h => thn (hl.run pins s σ H _ I h) fun v s1 ⟨x, H1, I1, r1, a, xs, e, hq, q⟩ => by
  subst e
  cases r1
  obtain ⟨its, rv, p, hz⟩ := I1.list hq
  exact wpAny_pyIter_list p.isList (born I1 (turn_list a _) ⟨_, Heap.get?_push_size _ rfl, rfl, rfl⟩ (q hz))⟩
theorem pi_tupB {tg l : Expr} {tl : TE} (hl : PE X l tl) : PI X tg l (iTupB X.K tl) := ⟨fun pins s σ H R I h => thn (hl.run pins s σ H _ I h) fun v s1 ⟨x, H1, I1, r1, a, xs, e, hq, q⟩ => by
  subst e
  cases r1
  obtain ⟨its, rv, p, hz⟩ := I1.tuple hq
  exact wpAny_pyIter_tuple (show s1.heap.IsTuple a its.toArray from p) (born I1 (turn_tuple a _) ⟨_, Heap.get?_push_size _ rfl, rfl, rfl⟩ (q hz))⟩
theorem pi_seqB {tg l : Expr} {tl : TE} (hl : PE X l tl) : PI X tg l (iSeqB X.K tl) := ⟨fun pins s σ H R I h => thn (hl.run pins s σ H _ I h) fun v s1 ⟨x, H1, I1, r1, a, xs, e, q1⟩ => by
  subst e
  cases r1
  rcases q1 with ⟨hq, q⟩ | ⟨hq, q⟩
  · obtain ⟨its, rv, p, hz⟩ := I1.list hq
    exact wpAny_pyIter_list p.isList (born I1 (turn_list a _) ⟨_, Heap.get?_push_size _ rfl, rfl, rfl⟩ (q hz))
  · obtain ⟨its, rv, p, hz⟩ := I1.tuple hq
    exact wpAny_pyIter_tuple (show s1.heap.IsTuple a its.toArray from p) (born I1 (turn_tuple a _) ⟨_, Heap.get?_push_size _ rfl, rfl, rfl⟩ (q hz))⟩
theorem pi_lB (K : PySem.W.Frag) {tg l : Expr} {tl : TE} (hl : PE X l tl) (h : X.K = K := by rfl) : PI X tg l (iListB K tl) := h ▸ pi_listB hl
theorem pi_tB (K : PySem.W.Frag) {tg l : Expr} {tl : TE} (hl : PE X l tl) (h : X.K = K := by rfl) : PI X tg l (iTupB K tl) := h ▸ pi_tupB hl
theorem pi_qB (K : PySem.W.Frag) {tg l : Expr} {tl : TE} (hl : PE X l tl) (h : X.K = K := by rfl) : PI X tg l (iSeqB K tl) := h ▸ pi_seqB hl
end
end L2
namespace G
open PySem PySem.Spec PyProof.Rows L2 PySem.W
section
variable {tx : XC → Addr} {Y : YC} {Γ : List Cell} {te ta tb tc td tl : TE} {t u tt : TT} {α β γ δ ε σ τ ρ : Type} {d : Dat α} {d1 : Dat α} {d2 : Dat β} {d3 : Dat γ} {g : TG} {ts t1 t2 rest : TS} {js js' vs : List Nat}
/-! ### what a for walks -/
def Ie (tx : XC → Addr) (Y : YC) (ti : TI) (Γ : List Cell) {α : Type} (d : Dat α) (m : M (List α)) : Prop := m.nb → XkM tx Y Γ m → ∀ (g : TG) (ts : TS) (k : Ks), (∀ xs, m = .ok xs → Body Y g ts d k (fun i => xs[i]?) xs.length Γ) → Z Y (tFor ti g ts) Γ k
theorem ie_eq {ti : TI} {m m' : M (List α)} (h : Ie tx Y ti Γ d m) (e : m = m') : Ie tx Y ti Γ d m' := e ▸ h
theorem ie_list {m : M (List α)} (h : We tx Y tl Γ (dList (d := d)) m) : Ie tx Y (iList Y.K tl) Γ d m := fun nb xk g ts k hb => z_for (w_mono (h nb xk) fun xs e => hb xs e)
theorem ie_tup {m : M (Tup α)} (h : We tx Y tl Γ (dTup (d := d)) m) : Ie tx Y (iTup Y.K tl) Γ d (m >>= fun xs => .ok xs.l) := fun nb xk g ts k hb => z_forT (h.k nb xk fun xs e _ _ => hb xs.l (by rw [e]; rfl))
theorem ie_seq {m : M (Sq α)} (h : We tx Y tl Γ (dSq (d := d)) m) : Ie tx Y (iSeq Y.K tl) Γ d (m >>= fun xs => .ok xs.l) := fun nb xk g ts k hb => z_forQ (h.k nb xk fun xs e _ _ => hb xs.l (by rw [e]; rfl))
theorem ie_range {m : M Int} (h : Re tx Y ta Γ dInt m) : Ie tx Y (iRng1 (tCons ta tNil)) Γ dInt (m >>= M.range) := fun nb xk g ts k hb => z_range (h.k nb xk fun n e nb2 _ => by
  have hp := M.asrt_nb nb2
  refine ⟨hp.1, Int.lt_of_le_of_lt hp.2 (by decide), ?_⟩
  have := hb (rngL 0 n.toNat) (by rw [e]; exact M.asrt_pos hp)
  rw [rngL_len] at this
  rw [show rng 0 n.toNat = fun i => (rngL 0 n.toNat)[i]? from funext fun i => rng_get 0 n.toNat i]
  exact this)
theorem ie_range2 {m n : M Int} (h : Re tx Y ta Γ dInt m) (h2 : Re tx Y tb Γ dInt n) : Ie tx Y (iRng2 (tCons ta (tCons tb tNil))) Γ dInt (m >>= fun a => n >>= fun b => M.range2 a b) := fun nb xk g ts k hb => z_range2 (h.k nb xk fun a e nb xk => h2.k nb xk fun b e2 nb2 _ => by
  have hp := M.asrt_nb nb2
  refine ⟨⟨hp.1, hp.2.1, hp.2.2.1, hp.2.2.2.1⟩, ?_⟩
  have := hb (rngL a (b - a).toNat) (by rw [e]; show (n >>= _) = _; rw [e2]; exact M.asrt_pos hp)
  rw [rngL_len] at this
  rw [show rng a (b - a).toNat = fun i => (rngL a (b - a).toNat)[i]? from funext fun i => rng_get a (b - a).toNat i]
  exact this)
theorem ie_enum {m : M (List α)} (h : We tx Y te Γ (dList (d := d)) m) : Ie tx Y (iEnum Y.K (tCons te tNil)) Γ (dPair (d1 := dInt) (d2 := d)) (m >>= fun xs => .ok (M.enumL xs)) := fun nb xk g ts k hb => z_enum (h.k nb xk fun xs e _ _ => by
  have := hb (M.enumL xs) (by rw [e]; rfl)
  rw [M.enumL_len] at this
  rw [show enumI xs = fun i => (M.enumL xs)[i]? from funext fun i => M.enumL_get xs i]
  exact this)
theorem ie_enumT {m : M (Tup α)} (h : We tx Y te Γ (dTup (d := d)) m) : Ie tx Y (iEnumT Y.K (tCons te tNil)) Γ (dPair (d1 := dInt) (d2 := d)) (m >>= fun xs => .ok (M.enumL xs.l)) := fun nb xk g ts k hb => z_enumT (h.k nb xk fun xs e _ _ => by
  have := hb (M.enumL xs.l) (by rw [e]; rfl)
  rw [M.enumL_len] at this
  rw [show enumI xs.l = fun i => (M.enumL xs.l)[i]? from funext fun i => M.enumL_get xs.l i]
  exact this)
/-- a written pair is walked -/
theorem w_pairL {k : Tup α → Prop} (h : W Y te Γ (dPair (d1 := d) (d2 := d)) fun x => k ⟨[x.1, x.2]⟩) : W Y te Γ (dTup (d := d)) k := fun e F σ H s Q q => h e F σ H s Q fun v F' H' x kx g ⟨a, v1, v2, e1, ht, r1, r2⟩ => q v F' H' _ kx g ⟨a, _, e1, ht, r1, r2, trivial⟩
theorem w_t3L {k : Tup α → Prop} (h : W Y te Γ (dT3 (d1 := d) (d2 := d) (d3 := d)) fun x => k ⟨[x.a, x.b, x.c]⟩) : W Y te Γ (dTup (d := d)) k := fun e F σ H s Q q => h e F σ H s Q fun v F' H' x kx g ⟨a, v1, v2, v3, e1, ht, r1, r2, r3⟩ => q v F' H' _ kx g ⟨a, _, e1, ht, r1, r2, r3, trivial⟩
theorem we_pairL {m : M (α × α)} (h : We tx Y te Γ (dPair (d1 := d) (d2 := d)) m) : We tx Y te Γ (dTup (d := d)) (m >>= fun x => .ok ⟨[x.1, x.2]⟩) := we_p1w (f := fun x : α × α => (⟨[x.1, x.2]⟩ : Tup α)) (fun k h => w_pairL h) h
theorem we_t3L {m : M (T3 α α α)} (h : We tx Y te Γ (dT3 (d1 := d) (d2 := d) (d3 := d)) m) : We tx Y te Γ (dTup (d := d)) (m >>= fun x => .ok ⟨[x.a, x.b, x.c]⟩) := we_p1w (f := fun x : T3 α α α => (⟨[x.a, x.b, x.c]⟩ : Tup α)) (fun k h => w_t3L h) h
/-! ### comprehensions -/
def Ic (tx : XC → Addr) (Y : YC) (ti : TI) (Γ : List Cell) {α : Type} (d : Dat α) (m : M (List α)) : Prop := m.nb → XkM tx Y Γ m → ∀ {β : Type} (d2 : Dat β) (g : TG) (tt : TT) (te : TE) (vs : List Nat) (kx : List β → Prop), (Tg g vs ∧ MoG g) →
  (∀ xs, m = .ok xs → xs.length ≤ PySem.sizeLine → CompB Y g tt te d d2 kx (fun i => xs[i]?) xs.length (wipeC Γ vs)) → O Y (tLc ti g tt te vs) Γ (oList (d := d2)) kx
theorem ic_eq {ti : TI} {m m' : M (List α)} (h : Ic tx Y ti Γ d m) (e : m = m') : Ic tx Y ti Γ d m' := e ▸ h
theorem ic_list {m : M (List α)} (h : We tx Y tl Γ (dList (d := d)) m) : Ic tx Y (iListB Y.K tl) Γ d m := fun nb xk β d2 g tt te vs kx hT hb e F σ H s Q q => h nb xk e F σ H s _ fun v F1 H1 xs hm g1 ⟨a, us, e1, hq, r⟩ => by
  subst e1
  refine ⟨a, us, rfl, g1.fh.seq hq, fun hz D hD => ?_⟩
  obtain ⟨I, h0, hs, hd⟩ := hb xs hm (by rw [← r.len]; exact hz)
  have kw0 : Wk ⟨F1, H1, []⟩ F1 [(D, .lst [])] (upd H1 D (.lst [])) := g1.base.own hD (fun _ z => by cases z)
  refine lc_list (K := Y.K) (a := a) (xs := us) (fun i H => ∃ F' acc ys, Wk ⟨F1, H1, []⟩ F' [(D, .lst acc)] H ∧ Reps d2 Y.g F' acc ys ∧ I i ys) ⟨F1, [], [], kw0, trivial, h0⟩ (fun i H _ ⟨F', acc, ys, kw, _⟩ => (kw.ff.trans kw.fh).seq hq) (fun i w H hw p => ?_) fun H ⟨F', acc, ys, kw, ra, hi⟩ => ?_
  · obtain ⟨x, hx, rx⟩ := r.getV hw
    exact comp_turn (s.grow g1) hT.1 (hs i x · hx) (fun F' sm => d.mono sm rx) p
  · rw [r.len] at hi
    exact q _ F' H _ ys (hd ys hi) (by simpa using g1.trans kw) ⟨D, acc, rfl, rfl, ra⟩
theorem ic_tup {m : M (Tup α)} (h : We tx Y tl Γ (dTup (d := d)) m) : Ic tx Y (iTupB Y.K tl) Γ d (m >>= fun xs => .ok xs.l) := fun nb xk β d2 g tt te vs kx hT hb e F σ H s Q q => h.k nb xk (k := fun xs => m = .ok xs) (fun xs e _ _ => e) e F σ H s _ fun v F1 H1 xs hm g1 ⟨a, us, e1, hq, r⟩ => by
  subst e1
  refine ⟨a, us, rfl, (hq.mono g1.fh).sq, fun hz D hD => ?_⟩
  obtain ⟨I, h0, hs, hd⟩ := hb xs.l (by rw [hm]; rfl) (by rw [← r.len]; exact hz)
  have kw0 : Wk ⟨F1, H1, []⟩ F1 [(D, .lst [])] (upd H1 D (.lst [])) := g1.base.own hD (fun _ z => by cases z)
  refine lc_tup (K := Y.K) (a := a) (xs := us) (fun i H => ∃ F' acc ys, Wk ⟨F1, H1, []⟩ F' [(D, .lst acc)] H ∧ Reps d2 Y.g F' acc ys ∧ I i ys) ⟨F1, [], [], kw0, trivial, h0⟩ (fun i H _ ⟨F', acc, ys, kw, _⟩ => (hq.mono (kw.ff.trans kw.fh)).sq) (fun i w H hw p => ?_) fun H ⟨F', acc, ys, kw, ra, hi⟩ => ?_
  · obtain ⟨x, hx, rx⟩ := r.getV hw
    exact comp_turn (s.grow g1) hT.1 (hs i x · hx) (fun F' sm => d.mono sm rx) p
  · rw [r.len] at hi
    exact q _ F' H _ ys (hd ys hi) (by simpa using g1.trans kw) ⟨D, acc, rfl, rfl, ra⟩
theorem ic_seq {m : M (Sq α)} (h : We tx Y tl Γ (dSq (d := d)) m) : Ic tx Y (iSeqB Y.K tl) Γ d (m >>= fun xs => .ok xs.l) := fun nb xk β d2 g tt te vs kx hT hb e F σ H s Q q => h.k nb xk (k := fun xs => m = .ok xs) (fun xs e _ _ => e) e F σ H s _ fun v F1 H1 xs hm g1 ⟨a, us, e1, hq, r⟩ => by
  subst e1
  have fin : ∀ {D : Addr} {H : Hp} {I : Nat → List β → Prop}, H1 D = none → (∀ ys, I xs.l.length ys → kx ys) → (∃ F' acc ys, Wk ⟨F1, H1, []⟩ F' [(D, .lst acc)] H ∧ Reps d2 Y.g F' acc ys ∧ I us.length ys) → Q (.ref D) H := fun {D H I} hD hd ⟨F', acc, ys, kw, ra, hi⟩ => by
    rw [r.len] at hi
    exact q _ F' H _ ys (hd ys hi) (by simpa using g1.trans kw) ⟨D, acc, rfl, rfl, ra⟩
  rcases hq with hq | hq
  · refine ⟨a, us, rfl, .inl ⟨g1.fh.seq hq, fun hz D hD => ?_⟩⟩
    obtain ⟨I, h0, hs, hd⟩ := hb xs.l (by rw [hm]; rfl) (by rw [← r.len]; exact hz)
    have kw0 : Wk ⟨F1, H1, []⟩ F1 [(D, .lst [])] (upd H1 D (.lst [])) := g1.base.own hD (fun _ z => by cases z)
    refine lc_list (K := Y.K) (a := a) (xs := us) (fun i H => ∃ F' acc ys, Wk ⟨F1, H1, []⟩ F' [(D, .lst acc)] H ∧ Reps d2 Y.g F' acc ys ∧ I i ys) ⟨F1, [], [], kw0, trivial, h0⟩ (fun i H _ ⟨F', acc, ys, kw, _⟩ => (kw.ff.trans kw.fh).seq hq) (fun i w H hw p => ?_) fun H p => fin hD hd p
    obtain ⟨x, hx, rx⟩ := r.getV hw
    exact comp_turn (s.grow g1) hT.1 (hs i x · hx) (fun F' sm => d.mono sm rx) p
  · refine ⟨a, us, rfl, .inr ⟨(hq.mono g1.fh).sq, fun hz D hD => ?_⟩⟩
    obtain ⟨I, h0, hs, hd⟩ := hb xs.l (by rw [hm]; rfl) (by rw [← r.len]; exact hz)
    have kw0 : Wk ⟨F1, H1, []⟩ F1 [(D, .lst [])] (upd H1 D (.lst [])) := g1.base.own hD (fun _ z => by cases z)
    refine lc_tup (K := Y.K) (a := a) (xs := us) (fun i H => ∃ F' acc ys, Wk ⟨F1, H1, []⟩ F' [(D, .lst acc)] H ∧ Reps d2 Y.g F' acc ys ∧ I i ys) ⟨F1, [], [], kw0, trivial, h0⟩ (fun i H _ ⟨F', acc, ys, kw, _⟩ => (hq.mono (kw.ff.trans kw.fh)).sq) (fun i w H hw p => ?_) fun H p => fin hD hd p
    obtain ⟨x, hx, rx⟩ := r.getV hw
    exact comp_turn (s.grow g1) hT.1 (hs i x · hx) (fun F' sm => d.mono sm rx) p
theorem ic_range {m : M Int} (h : Re tx Y ta Γ dInt m) : Ic tx Y (iRng1 (tCons ta tNil)) Γ dInt (m >>= M.range) := fun nb xk β d2 g tt te vs kx hT hb => o_lcR hT (h.k nb xk fun n e nb2 _ => by
  have hp := M.asrt_nb nb2
  refine ⟨hp.1, Int.lt_of_le_of_lt hp.2 (by decide), ?_⟩
  have := hb (rngL 0 n.toNat) (by rw [e]; exact M.asrt_pos hp) (by rw [rngL_len]; have := hp.2; omega)
  rw [rngL_len] at this
  rw [show rng 0 n.toNat = fun i => (rngL 0 n.toNat)[i]? from funext fun i => rng_get 0 n.toNat i]
  exact this)
theorem te_yes : Te tx Y tYes Γ (.ok true) := fun _ _ => t_yes rfl
theorem oe_lc {ti : TI} {m0 : M (List α)} {p : α → M Bool} {f : α → M β} (hT : Tg g vs ∧ MoG g) (h : Ic tx Y ti Γ d m0) (hb : ∀ x, A Y g (wipeC Γ vs) d x fun Γ2 => Te tx (calm Y.g) tt Γ2 (p x) ∧ We tx (calm Y.g) te Γ2 d2 (f x)) :
    Oe tx Y (tLc ti g tt te vs) Γ (oList (d := d2)) (m0 >>= M.comp p f) := fun nb xk => h (M.nb1 nb) xk.l d2 g tt te vs _ hT fun xs e hz => by
  have nb2 : (M.comp p f xs).nb := M.nb2 nb e
  refine ⟨fun i ys => M.comp p f (xs.take i) = .ok ys ∧ ys.length ≤ i, ⟨rfl, Nat.le_refl _⟩, fun i x ys hx ⟨hi, hl⟩ => ?_, fun ys ⟨hi, _⟩ => ?_⟩
  · have hx' : xs[i]? = some x := hx
    have hlt : i < xs.length := (List.getElem?_eq_some_iff.mp hx').1
    have htk : xs.take (i + 1) = xs.take i ++ [x] := by rw [List.take_add_one, hx']; rfl
    have e1 : M.comp p f (xs.take (i + 1)) = (M.comp p f [x] >>= fun b => .ok (ys ++ b)) := by rw [htk, M.comp_app, hi]; rfl
    have nb3 : (M.comp p f [x]).nb := fun z => nb2 (by
      have : xs = xs.take (i + 1) ++ xs.drop (i + 1) := (List.take_append_drop _ _).symm
      rw [this, M.comp_app, e1, z]; rfl)
    intro e0 F σ0 H v s r Q q
    refine hb x e0 F σ0 H v s r Q fun σ' Γ' ⟨ht, hw⟩ s' => q σ' Γ' ?_ s'
    simp only [M.comp] at nb3 e1
    obtain ⟨b, hb1⟩ := M.calm_nb (M.nb1 nb3)
    rw [hb1] at nb3 e1
    simp only [M.calm_of_ok, M.ok_bind] at nb3 e1
    refine t_mono (t_calm (ht (by rw [hb1]; exact fun z => nomatch z) (by rw [hb1]; exact XkM.ok))) fun b' eb => ⟨fun z => ?_, fun z => ?_⟩
    · rw [hb1] at eb
      cases eb
      subst z
      rw [if_pos rfl] at nb3 e1
      obtain ⟨y, hy⟩ := M.calm_nb (M.nb1 nb3)
      rw [hy] at e1
      refine w_mono (w_calm (hw (by rw [hy]; exact fun z => nomatch z) (by rw [hy]; exact XkM.ok))) fun y' ey => ?_
      rw [hy] at ey
      cases ey
      exact ⟨by omega, e1, by simp; omega⟩
    · rw [hb1] at eb
      cases eb
      subst z
      rw [if_neg (by simp)] at e1
      exact ⟨by rw [e1]; simp, by omega⟩
  · rw [List.take_length] at hi
    rw [e]
    exact hi
/-! ### statements -/
theorem wipeC_len (Γ : List Cell) : ∀ js, (wipeC Γ js).length = Γ.length
  | [] => rfl
  | j :: js => by unfold wipeC; rw [List.length_set, wipeC_len Γ js]
theorem wipeC_set {Γ : List Cell} {i : Nat} {c : Cell} : ∀ {js : List Nat}, i ∈ js → wipeC (Γ.set i c) js = wipeC Γ js
  | [], h => nomatch h
  | j :: js, h => by
    unfold wipeC
    by_cases hi : i ∈ js
    · rw [wipeC_set hi]
    · have e : i = j := by
        rcases List.mem_cons.mp h with h | h
        · exact h
        · exact absurd h hi
      subst e
      have q : ∀ (js : List Nat), i ∉ js → wipeC (Γ.set i c) js = (wipeC Γ js).set i c := by
        intro js
        induction js with
        | nil => intro _; rfl
        | cons m js ih =>
          intro h
          unfold wipeC
          rw [ih (fun z => h (List.mem_cons_of_mem _ z)), set_comm _ _ _ (fun z => h (by rw [z]; exact List.mem_cons_self))]
      rw [q js hi]
      exact List.set_set _
theorem z_wipe {k : Ks} : ∀ (js : List Nat) {Γ : List Cell}, Z Y ts (wipeC Γ js) k → Z Y ts Γ k
  | [], _, h => h
  | j :: js, Γ, h => by
    refine z_wipe js ?_
    unfold wipeC at h
    cases q : (wipeC Γ js)[j]? with
    | some c => exact z_forget j q h
    | none =>
      rw [List.set_eq_of_length_le (List.getElem?_eq_none_iff.mp q)] at h
      exact h
structure Kt (τ : Type) where
  nx : τ → List Cell → Prop
  rt : τ → Cell → List Cell → Prop
  bk : τ → List Cell → Prop
  ct : τ → List Cell → Prop
def Kt.ks {τ : Type} (K : Kt τ) (m : M τ) : Ks := ⟨fun Γ => ∃ t, m = .ok t ∧ K.nx t Γ, fun c Γ => ∃ t, m = .ok t ∧ K.rt t c Γ, fun Γ => ∃ t, m = .ok t ∧ K.bk t Γ, fun Γ => ∃ t, m = .ok t ∧ K.ct t Γ⟩
/-- a def's end -/
def KF {ρ : Type} (cell : ρ → Cell) : Kt ρ := ⟨fun t _ => .val dUnit () = cell t, fun t c _ => c = cell t, fun _ _ => False, fun _ _ => False⟩
/-- a turn's end -/
def KL {σ : Type} (js' : List Nat) (cells : σ → List Cell) : Kt σ := ⟨fun s Γ => wipeC Γ js' = cells s, fun _ _ _ => False, fun _ _ => False, fun s Γ => wipeC Γ js' = cells s⟩
/-- a turn's end, where a turn may leave -/
def KC {σ ρ : Type} (js' : List Nat) (cells : σ → List Cell) (cell : ρ → Cell) : Kt (Ct σ ρ) := ⟨fun t Γ => ∃ s, t = .nx s ∧ wipeC Γ js' = cells s, fun t c _ => ∃ r, t = .rt r ∧ c = cell r, fun t Γ => ∃ s, t = .bk s ∧ wipeC Γ js' = cells s, fun t Γ => ∃ s, t = .nx s ∧ wipeC Γ js' = cells s⟩
def Xk (tx : XC → Addr) (Y : YC) (js : List Nat) (Γ : List Cell) {τ : Type} (m : M τ) : Prop := ∀ x, m = .exc x → ∀ Γ', wipeC Γ' js = wipeC Γ js → Y.kx (x.x tx) Γ'
theorem Xk.here {m : M τ} (h : Xk tx Y js Γ m) : XkM tx Y Γ m := fun x e => h x e Γ rfl
theorem Xk.r {Γ2 : List Cell} {m : M σ} {f : σ → M τ} {x : σ} (h : Xk tx Y js Γ (m >>= f)) (e : m = .ok x) (hw : wipeC Γ2 js = wipeC Γ js) : Xk tx Y js Γ2 (f x) := fun y e2 Γ' e3 => h y (by rw [e]; exact e2) Γ' (e3.trans hw)
theorem Xk.l {m : M σ} {f : σ → M τ} (h : Xk tx Y js Γ (m >>= f)) : Xk tx Y js Γ m := fun y e2 Γ' e3 => h y (by rw [e2]; rfl) Γ' e3
theorem Xk.w {Γ2 : List Cell} {m : M τ} (h : Xk tx Y js Γ m) (hw : wipeC Γ2 js = wipeC Γ js) : Xk tx Y js Γ2 m := fun y e2 Γ' e3 => h y e2 Γ' (e3.trans hw)
/-- the statement does as the model says -/
def Zm (tx : XC → Addr) (Y : YC) (js : List Nat) (ts : TS) (Γ : List Cell) {τ : Type} (K : Kt τ) (m : M τ) : Prop := m.nb → Xk tx Y js Γ m → Z Y ts Γ (K.ks m)
variable {K : Kt τ}
theorem Zm.go {Γ2 : List Cell} {m1 : M σ} {f : σ → M τ} {x : σ} (h : Zm tx Y js rest Γ2 K (f x)) (nb : (m1 >>= f).nb) (xk : Xk tx Y js Γ (m1 >>= f)) (e : m1 = .ok x) (hw : wipeC Γ2 js = wipeC Γ js) : Z Y rest Γ2 (K.ks (m1 >>= f)) := by
  have := h (M.nb2 nb e) (xk.r e hw)
  rw [e]
  exact this
theorem zm_last {m : M τ} (h : Zm tx Y js (tSeq ts tNext) Γ K m) : Zm tx Y js ts Γ K m := h
theorem zm_assoc {m : M τ} (h : Zm tx Y js (tSeq t1 (tSeq t2 rest)) Γ K m) : Zm tx Y js (tSeq (tSeq t1 t2) rest) Γ K m := h
theorem zm_skip {m : M τ} (h : Zm tx Y js rest Γ K m) : Zm tx Y js (tSeq tNext rest) Γ K m := h
theorem zm_set {i : Nat} {c0 : Cell} {m1 : M α} {m2 : α → M τ} (hi : Γ[i]? = some c0) (hj : i ∈ js) (h : We tx Y te Γ d m1) (h2 : ∀ x, Zm tx Y js rest (Γ.set i (.val d x)) K (m2 x)) : Zm tx Y js (tSeq (tAsg te (gName i)) rest) Γ K (m1 >>= m2) := fun nb xk =>
  z_seq (z_set hi (w_mono (h (M.nb1 nb) xk.l.here) fun x e => (h2 x).go nb xk e (wipeC_set hj)))
theorem zm_setO {od : @OD α d} {i : Nat} {c0 : Cell} {m1 : M α} {m2 : α → M τ} (hi : Γ[i]? = some c0) (hj : i ∈ js) (h : Oe tx Y te Γ od m1) (h2 : ∀ x, Zm tx Y js rest (Γ.set i (.own d od none x)) K (m2 x)) : Zm tx Y js (tSeq (tAsg te (gName i)) rest) Γ K (m1 >>= m2) := fun nb xk =>
  z_seq (z_setO hi (o_mono (h (M.nb1 nb) xk.l.here) fun x e => (h2 x).go nb xk e (wipeC_set hj)))
theorem a_mono {x : α} {k k' : List Cell → Prop} (h : A Y g Γ d x k) (m : ∀ Γ, k Γ → k' Γ) : A Y g Γ d x k' := fun e F σ H v s r Q q => h e F σ H v s r Q fun σ' Γ' kx s' => q σ' Γ' (m Γ' kx) s'
theorem zm_setG {m1 : M α} {m2 : α → M τ} (h : We tx Y te Γ d m1) (h2 : ∀ x, A Y g Γ d x fun Γ2 => wipeC Γ2 js = wipeC Γ js ∧ Zm tx Y js rest Γ2 K (m2 x)) : Zm tx Y js (tSeq (tAsg te g) rest) Γ K (m1 >>= m2) := fun nb xk =>
  z_seq (z_setG (w_mono (h (M.nb1 nb) xk.l.here) fun x e => a_mono (h2 x) fun Γ2 ⟨hw, hz⟩ => hz.go nb xk e hw))
theorem zm_drop {m1 : M α} {m2 : M τ} (h : Re tx Y te Γ d m1) (h2 : Zm tx Y js rest Γ K m2) : Zm tx Y js (tSeq (tDrop te) rest) Γ K (m1 >>= fun _ => m2) := fun nb xk =>
  z_seq (z_drop (kt := fun _ => True) (r_mono (h (M.nb1 nb) xk.l.here) fun x e => Zm.go (f := fun _ => m2) (x := x) h2 nb xk e rfl))
theorem zm_frz {od : @OD α d} {x : α} {m : M τ} (i : Nat) (hi : Γ[i]? = some (.own d od none x)) (hj : i ∈ js) (h : Zm tx Y js ts (Γ.set i (.val d x)) K m) : Zm tx Y js ts Γ K m := fun nb xk => z_frz i hi (h nb (xk.w (wipeC_set hj)))
theorem zm_hide {m : M τ} (js' : List Nat) (hw : wipeC (wipeC Γ js') js = wipeC Γ js) (h : Zm tx Y js ts (wipeC Γ js') K m) : Zm tx Y js ts Γ K m := fun nb xk => z_wipe js' (h nb (xk.w hw))
theorem zm_to {Γ2 : List Cell} {m : M τ} (e : Γ = Γ2) (h : Zm tx Y js ts Γ2 K m) : Zm tx Y js ts Γ K m := e ▸ h
/-! stores into what is owned -/
theorem zm_append {pin : Option V} {i : Nat} {xs : List α} {m1 : M α} {m2 : List α → M τ} (hi : Γ[i]? = some (.own (dList (d := d)) (oList (d := d)) pin xs)) (hj : i ∈ js) (h : We tx Y te Γ d m1) (h2 : ∀ ys, Zm tx Y js rest (Γ.set i (.own (dList (d := d)) (oList (d := d)) pin ys)) K (m2 ys)) :
    Zm tx Y js (tSeq (tDrop (tBM Y.K "list" rAppend (tVar i) (tCons te tNil))) rest) Γ K (M.push xs m1 >>= m2) := fun nb xk =>
  z_seq (z_append hi (w_mono (h (M.nb1 (M.nb1 nb)) fun x e => xk.here x (by unfold M.push; rw [e]; rfl)) fun y e => by
    have nb1 : (M.push xs m1).nb := M.nb1 nb
    unfold M.push at nb1
    rw [e] at nb1
    have hl := M.asrt_nb nb1
    exact ⟨hl, (h2 (xs ++ [y])).go nb xk (by rw [e]; exact M.push_ok hl) (wipeC_set hj)⟩))
theorem zm_pushO {od : @OD α d} {pin : Option V} {i : Nat} {xs : List α} {m1 : M α} {m2 : List α → M τ} (hi : Γ[i]? = some (.own (dList (d := d)) (oDeep od) pin xs)) (hj : i ∈ js) (h : Oe tx Y te Γ od m1) (h2 : ∀ ys, Zm tx Y js rest (Γ.set i (.own (dList (d := d)) (oDeep od) pin ys)) K (m2 ys)) :
    Zm tx Y js (tSeq (tDrop (tBM Y.K "list" rAppend (tVar i) (tCons te tNil))) rest) Γ K (M.push xs m1 >>= m2) := fun nb xk =>
  z_seq (z_appendO hi (o_mono (h (M.nb1 (M.nb1 nb)) fun x e => xk.here x (by unfold M.push; rw [e]; rfl)) fun y e => by
    have nb1 : (M.push xs m1).nb := M.nb1 nb
    unfold M.push at nb1
    rw [e] at nb1
    have hl := M.asrt_nb nb1
    exact ⟨hl, (h2 (xs ++ [y])).go nb xk (by rw [e]; exact M.push_ok hl) (wipeC_set hj)⟩))
/-- xs[i] = e -/
def M.setIx {α : Type} (xs : List α) (mi : M Int) (me : M α) : M (List α) := me >>= fun y => mi >>= fun n => match ixN xs.length n with | some j => .ok (xs.set j y) | none => .bad
theorem zm_setIx {pin : Option V} {i : Nat} {xs : List α} {mi : M Int} {m1 : M α} {m2 : List α → M τ} (hi : Γ[i]? = some (.own (dList (d := d)) (oList (d := d)) pin xs)) (hj : i ∈ js) (h : We tx Y te Γ d m1) (hx : Re tx Y tb Γ dInt mi) (h2 : ∀ ys, Zm tx Y js rest (Γ.set i (.own (dList (d := d)) (oList (d := d)) pin ys)) K (m2 ys)) :
    Zm tx Y js (tSeq (tAsg te (gSub (tVar i) tb rSetL)) rest) Γ K (M.setIx xs mi m1 >>= m2) := fun nb xk =>
  z_seq (z_setIx hi (h.k (M.nb1 nb) xk.l.here fun y e nb3 xk3 => hx.k nb3 xk3 fun n e2 nb4 _ => by
    cases q : ixN xs.length n with
    | none => simp only [q] at nb4; exact absurd rfl nb4
    | some j => exact ⟨j, rfl, (h2 (xs.set j y)).go nb xk (by unfold M.setIx; rw [e]; show (mi >>= _) = _; rw [e2]; show (match ixN xs.length n with | some j => _ | none => _) = _; rw [q]) (wipeC_set hj)⟩))
def M.aug (f : Int → Int → Int) (x : Int) (m : M Int) : M Int := m >>= fun y => .ok (f x y)
theorem zm_aug {i : Nat} {f : Int → Int → Int} {x : Int} {m1 : M Int} {m2 : Int → M τ} (hi : Γ[i]? = some (.val dInt x)) (hj : i ∈ js) (h : Re tx Y te Γ dInt m1) (h2 : ∀ y, Zm tx Y js rest (Γ.set i (.val dInt y)) K (m2 y)) :
    Zm tx Y js (tSeq (tAug i te (ipI f)) rest) Γ K (M.aug f x m1 >>= m2) := fun nb xk =>
  z_seq (z_aug hi (h.k (M.nb1 nb) xk.l.here fun y e _ _ => (h2 (f x y)).go nb xk (by unfold M.aug; rw [e]; rfl) (wipeC_set hj)))
def M.popL {α : Type} (xs : List α) : M (List α × α) := match xs.getLast? with | some y => .ok (xs.dropLast, y) | none => .bad
theorem zm_pop {pin : Option V} {i j : Nat} {xs : List α} {c0 : Cell} {m2 : List α × α → M τ} (hi : Γ[i]? = some (.own (dList (d := d)) (oList (d := d)) pin xs)) (hij : (i == j) = false) (hj' : Γ[j]? = some c0) (hj : i ∈ js) (hjj : j ∈ js) (h2 : ∀ p, Zm tx Y js rest ((Γ.set i (.own (dList (d := d)) (oList (d := d)) pin p.1)).set j (.val d p.2)) K (m2 p)) :
    Zm tx Y js (tSeq (tAsg (tBM0 Y.K "list" rPop (tVar i)) (gName j)) rest) Γ K (M.popL xs >>= m2) := fun nb xk => by
  have nb1 : (M.popL xs).nb := M.nb1 nb
  cases q : xs.getLast? with
  | none => unfold M.popL at nb1; rw [q] at nb1; exact absurd rfl nb1
  | some y =>
    have e : M.popL xs = .ok (xs.dropLast, y) := by unfold M.popL; rw [q]
    have ex : xs = xs.dropLast ++ [y] := by
      obtain ⟨ys, rfl⟩ := List.getLast?_eq_some_iff.mp q
      simp
    have hne : i ≠ j := by simpa using hij
    refine z_seq (z_pop (xs := xs.dropLast) (y := y) (c0 := c0) (by rw [← ex]; exact hi) ?_ ((h2 (xs.dropLast, y)).go nb xk e ?_))
    · rw [List.getElem?_set_ne hne]; exact hj'
    · rw [wipeC_set hjj, wipeC_set hj]
def M.sadd (s : IS) (m : M Int) : M IS := m >>= fun y => M.asrt (s.l.length + 1 < PySem.scanBound) (.ok (isAdd s y))
theorem zm_sadd {i : Nat} {pin : Option V} {x : IS} {m1 : M Int} {m2 : IS → M τ} (hi : Γ[i]? = some (.own dSet oSet pin x)) (hj : i ∈ js) (h : Re tx Y te Γ dInt m1) (h2 : ∀ y, Zm tx Y js rest (Γ.set i (.own dSet oSet pin y)) K (m2 y)) :
    Zm tx Y js (tSeq (tDrop (tSAdd Y.w (tVar i) (tCons te tNil))) rest) Γ K (M.sadd x m1 >>= m2) := fun nb xk =>
  z_seq (z_sadd hi (h.k (M.nb1 nb) xk.l.here fun y e nb2 _ => ⟨M.asrt_nb nb2, (h2 (isAdd x y)).go nb xk (by unfold M.sadd; rw [e]; exact M.asrt_pos (M.asrt_nb nb2)) (wipeC_set hj)⟩))
def M.dput {α : Type} (x : DI α) (mk : M Int) (mv : M α) : M (DI α) := mv >>= fun y => mk >>= fun n => M.asrt (x.kv.length < PySem.sizeLine) (.ok ⟨putI x.kv n y⟩)
theorem zm_dput {tk tv : TE} {i : Nat} {pin : Option V} {x : DI α} {mk : M Int} {mv : M α} {m2 : DI α → M τ} (hi : Γ[i]? = some (.own (dDI (d := d)) (oDI (d := d)) pin x)) (hj : i ∈ js) (hv : We tx Y tv Γ d mv) (hk : Re tx Y tk Γ dInt mk) (h2 : ∀ y, Zm tx Y js rest (Γ.set i (.own (dDI (d := d)) (oDI (d := d)) pin y)) K (m2 y)) :
    Zm tx Y js (tSeq (sDPut (tVar i) tk tv) rest) Γ K (M.dput x mk mv >>= m2) := fun nb xk =>
  z_seq (z_dput hi (hv.k (M.nb1 nb) xk.l.here fun y e nb3 xk3 => hk.k nb3 xk3 fun n e2 nb4 _ => ⟨M.asrt_nb nb4, (h2 ⟨putI x.kv n y⟩).go nb xk (by unfold M.dput; rw [e]; show (mk >>= _) = _; rw [e2]; exact M.asrt_pos (M.asrt_nb nb4)) (wipeC_set hj)⟩))
/-! ways -/
theorem zm_if {mb : M Bool} {m1 m2 : M τ} (hb : Te tx Y t Γ mb) (h1 : Zm tx Y js (tSeq t1 rest) Γ K m1) (h2 : Zm tx Y js (tSeq t2 rest) Γ K m2) : Zm tx Y js (tSeq (tIfS t t1 t2) rest) Γ K (mb >>= fun b => if b then m1 else m2) := fun nb xk => by
  have : Z Y (tIfS t (tSeq t1 rest) (tSeq t2 rest)) Γ (K.ks (mb >>= fun b => if b then m1 else m2)) := z_if (t_mono (hb (M.nb1 nb) xk.l.here) fun b e => ⟨fun z => by
    subst z
    exact Zm.go (f := fun b => if b = true then m1 else m2) (x := true) h1 nb xk e rfl, fun z => by
    subst z
    exact Zm.go (f := fun b => if b = true then m1 else m2) (x := false) h2 nb xk e rfl⟩)
  intro e F σ H D hM s c
  have q := this e F σ H D hM s c
  refine Eq.mp ?_ q
  unfold tIfS tSeq
  rfl
theorem zm_ifP {b : Bool} {m1 m2 : M τ} (hb : Te tx Y t Γ (.ok b)) (h1 : Zm tx Y js (tSeq t1 rest) Γ K m1) (h2 : Zm tx Y js (tSeq t2 rest) Γ K m2) : Zm tx Y js (tSeq (tIfS t t1 t2) rest) Γ K (if b then m1 else m2) := zm_if hb h1 h2
theorem zm_ret {cell : τ → Cell} {d : Dat τ} {m : M τ} (h : We tx Y te Γ d m) (hc : cell = fun r => .val d r := by rfl) : Zm tx Y js (tSeq (tRet te) rest) Γ (KF cell) m := fun nb xk => by
  subst hc
  exact z_ret (te := te) (k := (KF fun r => Cell.val d r).ks m) (w_mono (h nb xk.here) fun x e => ⟨x, e, rfl⟩)
theorem zm_retO {cell : τ → Cell} {d : Dat τ} {od : OD τ} {m : M τ} (h : Oe tx Y te Γ od m) (hc : cell = fun r => .own d od none r := by rfl) : Zm tx Y js (tSeq (tRet te) rest) Γ (KF cell) m := fun nb xk => by
  subst hc
  exact z_retO (te := te) (k := (KF fun r => Cell.own d od none r).ks m) (o_mono (h nb xk.here) fun x e => ⟨x, e, rfl⟩)
theorem zm_retV {cell : τ → Cell} {d : Dat τ} {od : OD τ} {i : Nat} {x : τ} (hi : Γ[i]? = some (.own d od none x)) (hc : cell = fun r => .own d od none r := by rfl) : Zm tx Y js (tSeq (tRet (tVar i)) rest) Γ (KF cell) (.ok x) := fun nb xk => by
  subst hc
  exact z_retV (k := (KF fun r => Cell.own d od none r).ks (M.ok x)) hi ⟨x, rfl, rfl⟩
theorem zm_retN {cell : Unit → Cell} (hc : cell = fun r => .val dUnit r := by rfl) : Zm tx Y js (tSeq tRetN rest) Γ (KF cell) (.ok ()) := fun nb xk => by
  subst hc
  exact z_retN (k := (KF fun r => Cell.val dUnit r).ks (M.ok ())) ⟨(), rfl, rfl⟩
theorem zm_end {cell : Unit → Cell} (hc : cell = fun r => .val dUnit r := by rfl) : Zm tx Y js tNext Γ (KF cell) (.ok ()) := fun nb xk => by
  subst hc
  exact z_next (k := (KF fun r => Cell.val dUnit r).ks (M.ok ())) ⟨(), rfl, rfl⟩
variable {cells : σ → List Cell} {cell : ρ → Cell} {s : σ}
theorem zm_retC {d : Dat ρ} {m : M ρ} (h : We tx Y te Γ d m) (hc : cell = fun r => .val d r := by rfl) : Zm tx Y js (tSeq (tRet te) rest) Γ (KC js' cells cell) (m >>= fun r => .ok (.rt r)) := fun nb xk => by
  subst hc
  exact z_ret (te := te) (k := (KC js' cells fun r => Cell.val d r).ks (m >>= fun r => .ok (.rt r))) (w_mono (h (M.nb1 nb) xk.l.here) fun x e => ⟨.rt x, by rw [e]; rfl, x, rfl, rfl⟩)
theorem zm_retCO {d : Dat ρ} {od : OD ρ} {m : M ρ} (h : Oe tx Y te Γ od m) (hc : cell = fun r => .own d od none r := by rfl) : Zm tx Y js (tSeq (tRet te) rest) Γ (KC js' cells cell) (m >>= fun r => .ok (.rt r)) := fun nb xk => by
  subst hc
  exact z_retO (te := te) (k := (KC js' cells fun r => Cell.own d od none r).ks (m >>= fun r => .ok (.rt r))) (o_mono (h (M.nb1 nb) xk.l.here) fun x e => ⟨.rt x, by rw [e]; rfl, x, rfl, rfl⟩)
theorem zm_retCV {d : Dat ρ} {od : OD ρ} {i : Nat} {x : ρ} (hi : Γ[i]? = some (.own d od none x)) (hc : cell = fun r => .own d od none r := by rfl) : Zm tx Y js (tSeq (tRet (tVar i)) rest) Γ (KC js' cells cell) (.ok (.rt x)) := fun nb xk => by
  subst hc
  exact z_retV (k := (KC js' cells fun r => Cell.own d od none r).ks (M.ok (.rt x))) hi ⟨.rt x, rfl, x, rfl, rfl⟩
theorem zm_nextL (h : wipeC Γ js' = cells s) : Zm tx Y js tNext Γ (KL js' cells) (.ok s) := fun nb xk => z_next (k := (KL js' cells).ks (M.ok s)) ⟨s, rfl, h⟩
theorem zm_nextC (h : wipeC Γ js' = cells s) : Zm tx Y js tNext Γ (KC js' cells cell) (.ok (.nx s)) := fun nb xk => z_next (k := (KC js' cells cell).ks (M.ok (.nx s))) ⟨.nx s, rfl, s, rfl, h⟩
theorem zm_breakC (h : wipeC Γ js' = cells s) : Zm tx Y js (tSeq tBreak rest) Γ (KC js' cells cell) (.ok (.bk s)) := fun nb xk => z_break (k := (KC js' cells cell).ks (M.ok (.bk s))) ⟨.bk s, rfl, s, rfl, h⟩
theorem zm_contC (h : wipeC Γ js' = cells s) : Zm tx Y js (tSeq tCont rest) Γ (KC js' cells cell) (.ok (.nx s)) := fun nb xk => z_cont (k := (KC js' cells cell).ks (M.ok (.nx s))) ⟨.nx s, rfl, s, rfl, h⟩
theorem zm_contL (h : wipeC Γ js' = cells s) : Zm tx Y js (tSeq tCont rest) Γ (KL js' cells) (.ok s) := fun nb xk => z_cont (k := (KL js' cells).ks (M.ok s)) ⟨s, rfl, h⟩
/-- ways that meet: no turn ends here -/
def KJ {σ : Type} (js' : List Nat) (cells : σ → List Cell) : Kt σ := ⟨fun s Γ => wipeC Γ js' = cells s, fun _ _ _ => False, fun _ _ => False, fun _ _ => False⟩
theorem zm_nextJ (h : wipeC Γ js' = cells s) : Zm tx Y js tNext Γ (KJ js' cells) (.ok s) := fun nb xk => z_next (k := (KJ js' cells).ks (M.ok s)) ⟨s, rfl, h⟩
theorem zm_join (js' : List Nat) (cells : σ → List Cell) {m1 : M σ} {m2 : σ → M τ} (hw : ∀ s, wipeC (cells s) js = wipeC Γ js) (h1 : Zm tx Y js t1 Γ (KJ js' cells) m1) (h2 : ∀ s, Zm tx Y js rest (cells s) K (m2 s)) : Zm tx Y js (tSeq t1 rest) Γ K (m1 >>= m2) := fun nb xk =>
  z_seq (z_mono (h1 (M.nb1 nb) xk.l) (fun Γ' ⟨s, e, hs⟩ => z_wipe js' (by rw [show wipeC Γ' js' = cells s from hs]; exact (h2 s).go nb xk e (hw s))) (fun _ _ ⟨_, _, z⟩ => z.elim) (fun _ ⟨_, _, z⟩ => z.elim) fun Γ' ⟨s, e, z⟩ => z.elim)
/-- ways that meet, some of which leave by a return -/
def KR {σ ρ : Type} (js' : List Nat) (cells : σ → List Cell) (cell : ρ → Cell) : Kt (Ct σ ρ) := ⟨fun t Γ => ∃ s, t = .nx s ∧ wipeC Γ js' = cells s, fun t c _ => ∃ r, t = .rt r ∧ c = cell r, fun _ _ => False, fun _ _ => False⟩
/-! loops -/
theorem zm_for {ti : TI} (js' : List Nat) (cells : σ → List Cell) (s0 : σ) {m0 : M (List α)} {f : σ → α → M σ} {m2 : σ → M τ} (hw0 : wipeC (wipeC Γ js') js = wipeC Γ js) (h0 : wipeC Γ js' = cells s0) (hw : ∀ s, wipeC (cells s) js = wipeC Γ js) (h : Ie tx Y ti (cells s0) d m0)
    (hb : ∀ s x, A Y g (cells s) d x fun Γ2 => wipeC Γ2 js = wipeC Γ js ∧ Zm tx Y js ts Γ2 (KL js' cells) (f s x)) (h2 : ∀ s, Zm tx Y js rest (cells s) K (m2 s)) : Zm tx Y js (tSeq (tFor ti g ts) rest) Γ K (m0 >>= fun xs => M.fold f s0 xs >>= m2) := fun nb xk => by
  refine z_wipe js' (by
    rw [h0]
    refine z_seq (h (M.nb1 nb) ((xk.w (hw s0)).l.here) g ts _ fun xs e => ?_)
    have nb1 : (M.fold f s0 xs >>= m2).nb := M.nb2 (f := fun xs => M.fold f s0 xs >>= m2) nb e
    have nb2 : (M.fold f s0 xs).nb := M.nb1 nb1
    refine ⟨fun i Γ' => ∃ s, M.fold f s0 (xs.take i) = .ok s ∧ wipeC Γ' js' = cells s, ⟨s0, rfl, ?_⟩, fun i x Γ' hx ⟨s, es, hΓ⟩ => ?_, fun Γ' ⟨s, es, hΓ⟩ => ?_⟩
    · rw [← h0]
      have : ∀ js : List Nat, wipeC (wipeC Γ js) js = wipeC Γ js := by
        intro l
        suffices ∀ (l m : List Nat), (∀ j ∈ m, j ∈ l) → wipeC (wipeC Γ l) m = wipeC Γ l from this l l fun _ h => h
        intro l m hm
        induction m with
        | nil => rfl
        | cons j m ih =>
          show (wipeC (wipeC Γ l) m).set j .no = _
          rw [ih fun k hk => hm k (List.mem_cons_of_mem _ hk)]
          have : ∀ l : List Nat, j ∈ l → (wipeC Γ l).set j .no = wipeC Γ l := by
            intro l hl
            induction l with
            | nil => exact nomatch hl
            | cons k l ih2 =>
              show ((wipeC Γ l).set k .no).set j .no = (wipeC Γ l).set k .no
              by_cases hk : j = k
              · subst hk; exact List.set_set _
              · rw [set_comm _ _ _ (fun z => hk z.symm), ih2 ((List.mem_cons.mp hl).resolve_left hk)]
          exact this l (hm j List.mem_cons_self)
      exact this js'
    · have htk : xs.take (i + 1) = xs.take i ++ [x] := by rw [List.take_add_one, show xs[i]? = some x from hx]; rfl
      have hs1 : M.fold f s0 (xs.take (i + 1)) = f s x := by rw [htk, M.fold_app, es]; show M.fold f s [x] = _; simp [M.fold]
      have hall : M.fold f s0 xs = (f s x >>= fun s' => M.fold f s' (xs.drop (i + 1))) := by
        have : xs = xs.take (i + 1) ++ xs.drop (i + 1) := (List.take_append_drop _ _).symm
        rw [this, M.fold_app, hs1, ← this]
      have nb3 : (f s x).nb := fun z => nb2 (by rw [hall, z]; rfl)
      have xk3 : ∀ {Γ2 : List Cell}, wipeC Γ2 js = wipeC Γ js → Xk tx Y js Γ2 (f s x) := fun {Γ2} hΓ2 y ey Γ' e3 => xk y (by rw [e]; show (M.fold f s0 xs >>= m2) = _; rw [hall, ey]; rfl) Γ' (e3.trans hΓ2)
      refine fun e0 F σ0 H v st r Q q => ?_
      have st2 : State Y e0 F σ0 H Γ' := st
      refine (show A Y g Γ' d x _ from ?_) e0 F σ0 H v st r Q q
      have hA := hb s x
      rw [← hΓ] at hA
      have lift : ∀ (js' : List Nat) (Γ' : List Cell) (k : List Cell → Prop), A Y g (wipeC Γ' js') d x k → A Y g Γ' d x k := by
        intro l
        induction l with
        | nil => intro _ _ h; exact h
        | cons j l ih =>
          intro Γ' k h
          refine ih Γ' k ?_
          unfold wipeC at h
          cases q : (wipeC Γ' l)[j]? with
          | some c => exact fun e F σ H v s r Q q' => h e F σ H v (s.hide q) r Q q'
          | none =>
            rw [List.set_eq_of_length_le (List.getElem?_eq_none_iff.mp q)] at h
            exact h
      refine lift js' Γ' _ (a_mono hA fun Γ2 ⟨hΓ2, hz⟩ => ?_)
      exact z_mono (hz nb3 (xk3 hΓ2)) (fun Γ3 ⟨s', e', h'⟩ => ⟨s', by rw [hs1]; exact e', h'⟩) (fun _ _ ⟨_, _, z⟩ => z.elim) (fun _ ⟨_, _, z⟩ => z.elim) fun Γ3 ⟨s', e', h'⟩ => ⟨s', by rw [hs1]; exact e', h'⟩
    · rw [List.take_length] at es
      refine z_wipe js' ?_
      rw [hΓ]
      have hz := Zm.go (f := m2) (x := s) (m1 := M.fold f s0 xs) (Γ := Γ) (h2 s) nb1 (Xk.r (f := fun xs => M.fold f s0 xs >>= m2) xk e rfl) es (hw s)
      rw [e]
      exact hz)
theorem wipeC_idem (Γ : List Cell) (js : List Nat) : wipeC (wipeC Γ js) js = wipeC Γ js := by
  suffices ∀ (l m : List Nat), (∀ j ∈ m, j ∈ l) → wipeC (wipeC Γ l) m = wipeC Γ l from this js js fun _ h => h
  intro l m hm
  induction m with
  | nil => rfl
  | cons j m ih =>
    show (wipeC (wipeC Γ l) m).set j .no = _
    rw [ih fun k hk => hm k (List.mem_cons_of_mem _ hk)]
    have : ∀ l : List Nat, j ∈ l → (wipeC Γ l).set j .no = wipeC Γ l := by
      intro l hl
      induction l with
      | nil => exact nomatch hl
      | cons k l ih2 =>
        show ((wipeC Γ l).set k .no).set j .no = (wipeC Γ l).set k .no
        by_cases hk : j = k
        · subst hk; exact List.set_set _
        · rw [set_comm _ _ _ (fun z => hk z.symm), ih2 ((List.mem_cons.mp hl).resolve_left hk)]
    exact this l (hm j List.mem_cons_self)
theorem a_wipe {x : α} : ∀ (js' : List Nat) {Γ' : List Cell} {k : List Cell → Prop}, A Y g (wipeC Γ' js') d x k → A Y g Γ' d x k
  | [], _, _, h => h
  | j :: l, Γ', k, h => by
    refine a_wipe l ?_
    unfold wipeC at h
    cases q : (wipeC Γ' l)[j]? with
    | some c => exact fun e F σ H v s r Q q' => h e F σ H v (s.hide q) r Q q'
    | none =>
      rw [List.set_eq_of_length_le (List.getElem?_eq_none_iff.mp q)] at h
      exact h
theorem t_wipe {k : Bool → Prop} : ∀ (js' : List Nat) {Γ' : List Cell}, T Y t (wipeC Γ' js') k → T Y t Γ' k
  | [], _, h => h
  | j :: l, Γ', h => by
    refine t_wipe l ?_
    unfold wipeC at h
    cases q : (wipeC Γ' l)[j]? with
    | some c => exact fun e F σ H s Q q' => h e F σ H (s.hide q) Q q'
    | none =>
      rw [List.set_eq_of_length_le (List.getElem?_eq_none_iff.mp q)] at h
      exact h
/-- a for whose turns may leave -/
theorem zm_forC {ti : TI} (js' : List Nat) (cells : σ → List Cell) (cell : ρ → Cell) (s0 : σ) {m0 : M (List α)} {f : σ → α → M (Ct σ ρ)} {mr : ρ → M τ} {m2 : σ → M τ} (hw0 : wipeC (wipeC Γ js') js = wipeC Γ js) (h0 : wipeC Γ js' = cells s0) (hw : ∀ s, wipeC (cells s) js = wipeC Γ js) (h : Ie tx Y ti (cells s0) d m0)
    (hb : ∀ s x, A Y g (cells s) d x fun Γ2 => wipeC Γ2 js = wipeC Γ js ∧ Zm tx Y js ts Γ2 (KC js' cells cell) (f s x)) (hr : ∀ r Γ', ∃ t, mr r = .ok t ∧ K.rt t (cell r) Γ') (h2 : ∀ s, Zm tx Y js rest (cells s) K (m2 s)) : Zm tx Y js (tSeq (tFor ti g ts) rest) Γ K (m0 >>= fun xs => M.foldC f s0 xs >>= fun c => c.go mr m2) := fun nb xk => by
  refine z_wipe js' (by
    rw [h0]
    refine z_seq (h (M.nb1 nb) ((xk.w (hw s0)).l.here) g ts _ fun xs e => ?_)
    have nb1 : (M.foldC f s0 xs >>= fun c => c.go mr m2).nb := M.nb2 (f := fun xs => M.foldC f s0 xs >>= fun c => c.go mr m2) nb e
    have nb2 : (M.foldC f s0 xs).nb := M.nb1 nb1
    -- behind the loop
    have fin : ∀ (s : σ) (c : Ct σ ρ) (Γ' : List Cell), M.foldC f s0 xs = .ok c → (c = .nx s ∨ c = .bk s) → wipeC Γ' js' = cells s → Z Y rest Γ' (K.ks (m0 >>= fun xs => M.foldC f s0 xs >>= fun c => c.go mr m2)) := fun s c Γ' es hc hΓ => by
      refine z_wipe js' ?_
      rw [hΓ]
      have hg : c.go mr m2 = m2 s := by rcases hc with z | z <;> (subst z; rfl)
      have hz := Zm.go (f := fun c : Ct σ ρ => c.go mr m2) (x := c) (show Zm tx Y js rest (cells s) K (c.go mr m2) from by rw [hg]; exact h2 s) (m1 := M.foldC f s0 xs) (Γ := Γ) nb1 (Xk.r (f := fun xs => M.foldC f s0 xs >>= fun c => c.go mr m2) xk e rfl) es (hw s)
      rw [e]
      exact hz
    refine ⟨fun i Γ' => ∃ s, M.foldC f s0 (xs.take i) = .ok (.nx s) ∧ wipeC Γ' js' = cells s, ⟨s0, rfl, by rw [← h0]; exact wipeC_idem Γ js'⟩, fun i x Γ' hx ⟨s, es, hΓ⟩ => ?_, fun Γ' ⟨s, es, hΓ⟩ => ?_⟩
    · have htk : xs.take (i + 1) = xs.take i ++ [x] := by rw [List.take_add_one, show xs[i]? = some x from hx]; rfl
      have hs1 : M.foldC f s0 (xs.take (i + 1)) = f s x := by
        rw [htk, M.foldC_app, es]; show M.foldC f s [x] = _
        simp only [M.foldC]
        cases f s x with
        | bad => rfl
        | exc x => rfl
        | ok c => cases c <;> rfl
      have hall : M.foldC f s0 xs = (f s x >>= fun c => match c with | .nx s' => M.foldC f s' (xs.drop (i + 1)) | c => .ok c) := by
        have : xs = xs.take (i + 1) ++ xs.drop (i + 1) := (List.take_append_drop _ _).symm
        rw [this, M.foldC_app, hs1, ← this]
        all_goals (cases f s x with
        | bad => rfl
        | exc x => rfl
        | ok c => cases c <;> rfl)
      have nb3 : (f s x).nb := fun z => nb2 (by rw [hall, z]; rfl)
      have xk3 : ∀ {Γ2 : List Cell}, wipeC Γ2 js = wipeC Γ js → Xk tx Y js Γ2 (f s x) := fun {Γ2} hΓ2 y ey Γ' e3 => xk y (by rw [e]; show (M.foldC f s0 xs >>= _) = _; rw [hall, ey]; rfl) Γ' (e3.trans hΓ2)
      have hA := hb s x
      rw [← hΓ] at hA
      refine a_wipe js' (a_mono hA fun Γ2 ⟨hΓ2, hz⟩ => ?_)
      refine z_mono (hz nb3 (xk3 hΓ2)) (fun Γ3 ⟨c, e', s', ec, h'⟩ => ⟨s', by rw [hs1, e', ec], h'⟩) (fun c Γ3 ⟨t, e', r, er, hc⟩ => ?_) (fun Γ3 ⟨c, e', s', ec, h'⟩ => ?_) fun Γ3 ⟨c, e', s', ec, h'⟩ => ⟨s', by rw [hs1, e', ec], h'⟩
      · subst er hc
        obtain ⟨t2, e2, hk⟩ := hr r Γ3
        exact ⟨t2, by rw [e]; show (M.foldC f s0 xs >>= _) = _; rw [hall, e']; exact e2, hk⟩
      · subst ec
        exact fin s' (.bk s') Γ3 (by rw [hall, e']; rfl) (.inr rfl) h'
    · rw [List.take_length] at es
      exact fin s (.nx s) Γ' es (.inl rfl) hΓ)
theorem zm_while (js' : List Nat) (cells : σ → List Cell) (s0 : σ) {c : σ → M Bool} {f : σ → M σ} {m2 : σ → M τ} (h0 : wipeC Γ js' = cells s0) (hw : ∀ s, wipeC (cells s) js = wipeC Γ js)
    (hc : ∀ s, Te tx Y t (cells s) (c s)) (hb : ∀ s, Zm tx Y js ts (cells s) (KL js' cells) (f s)) (h2 : ∀ s, Zm tx Y js rest (cells s) K (m2 s)) : Zm tx Y js (tSeq (tWhile t ts) rest) Γ K (M.loop c f s0 >>= m2) := fun nb xk => by
  obtain ⟨n, hn, hl⟩ := M.loop_nb (M.nb1 nb)
  refine z_wipe js' ?_
  rw [h0]
  refine z_seq (z_while (fun m Γ' => ∃ s, wipeC Γ' js' = cells s ∧ M.loopN c f m s = M.loop c f s0 ∧ M.loopN c f m s ≠ .bad) ⟨n, s0, by rw [← h0]; exact wipeC_idem Γ js', hl.symm, hn⟩ fun m Γ' ⟨s, hΓ, hm, hnb⟩ => ?_)
  cases m with
  | zero => exact absurd rfl hnb
  | succ m =>
    unfold M.loopN at hm hnb
    have nbc : (c s).nb := fun z => hnb (by rw [z]; rfl)
    have xkc : XkM tx Y (cells s) (c s) := fun y ey => (xk.w (hw s)).here y (by rw [← hm, ey]; rfl)
    refine t_wipe js' ?_
    rw [hΓ]
    refine t_mono (hc s nbc xkc) fun b eb => ⟨fun z => ?_, fun z => ?_⟩
    · subst z
      rw [eb] at hm hnb
      simp only [M.ok_bind, if_true] at hm hnb
      refine z_wipe js' ?_
      rw [hΓ]
      have nbf : (f s).nb := fun z => hnb (by rw [z]; rfl)
      have fin : ∀ (s' : σ) (Γ3 : List Cell), f s = .ok s' → wipeC Γ3 js' = cells s' → ∃ m', m' < m + 1 ∧ ∃ s, wipeC Γ3 js' = cells s ∧ M.loopN c f m' s = M.loop c f s0 ∧ M.loopN c f m' s ≠ .bad := fun s' Γ3 e' h' => by
        rw [e'] at hm hnb
        exact ⟨m, Nat.lt_succ_self m, s', h', hm, hnb⟩
      exact z_mono (hb s nbf fun y ey Γ2 e3 => xk y (by rw [← hm, ey]; rfl) Γ2 (e3.trans (hw s))) (fun Γ3 ⟨s', e', h'⟩ => fin s' Γ3 e' h') (fun _ _ ⟨_, _, z⟩ => z.elim) (fun _ ⟨_, _, z⟩ => z.elim) fun Γ3 ⟨s', e', h'⟩ => fin s' Γ3 e' h'
    · subst z
      rw [eb] at hm
      refine z_wipe js' ?_
      rw [hΓ]
      exact (h2 s).go nb xk (by rw [← hm]; rfl) (hw s)
theorem zm_whileC (js' : List Nat) (cells : σ → List Cell) (cell : ρ → Cell) (s0 : σ) {c : σ → M Bool} {f : σ → M (Ct σ ρ)} {mr : ρ → M τ} {m2 : σ → M τ} (h0 : wipeC Γ js' = cells s0) (hw : ∀ s, wipeC (cells s) js = wipeC Γ js)
    (hc : ∀ s, Te tx Y t (cells s) (c s)) (hb : ∀ s, Zm tx Y js ts (cells s) (KC js' cells cell) (f s)) (hr : ∀ r Γ', ∃ t, mr r = .ok t ∧ K.rt t (cell r) Γ') (h2 : ∀ s, Zm tx Y js rest (cells s) K (m2 s)) : Zm tx Y js (tSeq (tWhile t ts) rest) Γ K (M.loopC c f s0 >>= fun c => c.go mr m2) := fun nb xk => by
  obtain ⟨n, hn, hl⟩ := M.loopC_nb (M.nb1 nb)
  have fin : ∀ (s : σ) (c' : Ct σ ρ) (Γ' : List Cell), M.loopC c f s0 = .ok c' → (c' = .nx s ∨ c' = .bk s) → wipeC Γ' js' = cells s → Z Y rest Γ' (K.ks (M.loopC c f s0 >>= fun c => c.go mr m2)) := fun s c' Γ' es hc hΓ => by
    refine z_wipe js' ?_
    rw [hΓ]
    have hg : c'.go mr m2 = m2 s := by rcases hc with z | z <;> (subst z; rfl)
    exact Zm.go (f := fun c : Ct σ ρ => c.go mr m2) (x := c') (show Zm tx Y js rest (cells s) K (c'.go mr m2) from by rw [hg]; exact h2 s) nb xk es (hw s)
  refine z_wipe js' ?_
  rw [h0]
  refine z_seq (z_while (fun m Γ' => ∃ s, wipeC Γ' js' = cells s ∧ M.loopNC c f m s = M.loopC c f s0 ∧ M.loopNC c f m s ≠ .bad) ⟨n, s0, by rw [← h0]; exact wipeC_idem Γ js', hl.symm, hn⟩ fun m Γ' ⟨s, hΓ, hm, hnb⟩ => ?_)
  cases m with
  | zero => exact absurd rfl hnb
  | succ m =>
    unfold M.loopNC at hm hnb
    have nbc : (c s).nb := fun z => hnb (by rw [z]; rfl)
    have xkc : XkM tx Y (cells s) (c s) := fun y ey => (xk.w (hw s)).here y (by rw [← hm, ey]; rfl)
    refine t_wipe js' ?_
    rw [hΓ]
    refine t_mono (hc s nbc xkc) fun b eb => ⟨fun z => ?_, fun z => ?_⟩
    · subst z
      rw [eb] at hm hnb
      simp only [M.ok_bind, if_true] at hm hnb
      refine z_wipe js' ?_
      rw [hΓ]
      have nbf : (f s).nb := fun z => hnb (by rw [z]; rfl)
      have nxt : ∀ (s' : σ) (Γ3 : List Cell), f s = .ok (.nx s') → wipeC Γ3 js' = cells s' → ∃ m', m' < m + 1 ∧ ∃ s, wipeC Γ3 js' = cells s ∧ M.loopNC c f m' s = M.loopC c f s0 ∧ M.loopNC c f m' s ≠ .bad := fun s' Γ3 e' h' => by
        rw [e'] at hm hnb
        exact ⟨m, Nat.lt_succ_self m, s', h', hm, hnb⟩
      refine z_mono (hb s nbf fun y ey Γ2 e3 => xk y (by rw [← hm, ey]; rfl) Γ2 (e3.trans (hw s))) (fun Γ3 ⟨c', e', s', ec, h'⟩ => nxt s' Γ3 (by rw [e', ec]) h') (fun cl Γ3 ⟨t, e', r, er, hcl⟩ => ?_) (fun Γ3 ⟨c', e', s', ec, h'⟩ => ?_) fun Γ3 ⟨c', e', s', ec, h'⟩ => nxt s' Γ3 (by rw [e', ec]) h'
      · subst er hcl
        obtain ⟨t2, e2, hk⟩ := hr r Γ3
        exact ⟨t2, by rw [← hm, e']; exact e2, hk⟩
      · subst ec
        exact fin s' (.bk s') Γ3 (by rw [← hm, e']; rfl) (.inr rfl) h'
    · subst z
      rw [eb] at hm
      exact fin s (.nx s) Γ' (by rw [← hm]; rfl) (.inl rfl) hΓ
/-- returns through, of defs and of turns -/
theorem rt_KF {cell : τ → Cell} : ∀ (r : τ) (Γ' : List Cell), ∃ t, (M.ok r : M τ) = .ok t ∧ (KF cell).rt t (cell r) Γ' := fun r _ => ⟨r, rfl, rfl⟩
theorem rt_KC : ∀ (r : ρ) (Γ' : List Cell), ∃ t, (M.ok (Ct.rt r) : M (Ct σ ρ)) = .ok t ∧ (KC js' cells cell).rt t (cell r) Γ' := fun r _ => ⟨.rt r, rfl, r, rfl, rfl⟩
/-- ways that meet, some of which leave by a return -/
theorem zm_joinR (js' : List Nat) (cells : σ → List Cell) (cell : ρ → Cell) {m1 : M (Ct σ ρ)} {mr : ρ → M τ} {m2 : σ → M τ} (hw : ∀ s, wipeC (cells s) js = wipeC Γ js) (h1 : Zm tx Y js t1 Γ (KR js' cells cell) m1) (hr : ∀ r Γ', ∃ t, mr r = .ok t ∧ K.rt t (cell r) Γ') (h2 : ∀ s, Zm tx Y js rest (cells s) K (m2 s)) : Zm tx Y js (tSeq t1 rest) Γ K (m1 >>= fun c => c.go mr m2) := fun nb xk =>
  z_seq (z_mono (h1 (M.nb1 nb) xk.l) (fun Γ' ⟨c, e, s, ec, hs⟩ => z_wipe js' (by
    subst ec
    rw [show wipeC Γ' js' = cells s from hs]
    exact Zm.go (f := fun c : Ct σ ρ => c.go mr m2) (x := .nx s) (h2 s) nb xk e (hw s))) (fun c Γ' ⟨t, e, r, er, hc⟩ => by
    subst er hc
    obtain ⟨t2, e2, hk⟩ := hr r Γ'
    exact ⟨t2, by rw [e]; exact e2, hk⟩) (fun _ ⟨_, _, z⟩ => z.elim) fun Γ' ⟨s, e, z⟩ => z.elim)
theorem zm_retR {d : Dat ρ} {m : M ρ} (h : We tx Y te Γ d m) (hc : cell = fun r => .val d r := by rfl) : Zm tx Y js (tSeq (tRet te) rest) Γ (KR js' cells cell) (m >>= fun r => .ok (.rt r)) := fun nb xk => by
  subst hc
  exact z_ret (te := te) (k := (KR js' cells fun r => Cell.val d r).ks (m >>= fun r => .ok (.rt r))) (w_mono (h (M.nb1 nb) xk.l.here) fun x e => ⟨.rt x, by rw [e]; rfl, x, rfl, rfl⟩)
theorem zm_nextR (h : wipeC Γ js' = cells s) : Zm tx Y js tNext Γ (KR js' cells cell) (.ok (.nx s)) := fun nb xk => z_next (k := (KR js' cells cell).ks (M.ok (.nx s))) ⟨.nx s, rfl, s, rfl, h⟩
/-! ### the body of a def -/
theorem Zm.body {C : GCtx} {N : List Str} {cell : τ → Cell} {m : M τ} {vs : List V} {H : Hp} {Q : VK} {E : XK} (nb : m.nb) (h : FnX C Γ (fun c => ∃ r, c = cell r ∧ m = .ok r) (fun x => ∃ px, m = .exc px ∧ x = px.x tx) vs H Q E)
    (hz : Zm tx ⟨C, fun _ => E, fun x _ => ∃ px, m = .exc px ∧ x = px.x tx⟩ js ts (Γ ++ List.replicate (N.length - Γ.length) .no) (KF cell) m) : ts { nx := fun _ H' => Q .non H', rt := Q } (L2.start N vs) H :=
  h.body (z_mono (hz nb fun x e Γ' _ => ⟨x, e, rfl⟩) (fun Γ' ⟨t, e, q⟩ => ⟨t, q, e⟩) (fun c Γ' ⟨t, e, q⟩ => ⟨t, q, e⟩) (fun _ ⟨_, _, z⟩ => z) fun _ ⟨_, _, z⟩ => z)
/-- .. of a def that lets nothing out -/
theorem Zm.body0 {C : GCtx} {N : List Str} {cell : τ → Cell} {m : M τ} {x : τ} {vs : List V} {H : Hp} {Q : VK} (e : m = .ok x) (h : Fn C Γ (fun c => c = cell x) vs H Q)
    (hz : Zm tx (calm C) js ts (Γ ++ List.replicate (N.length - Γ.length) .no) (KF cell) m) : ts { nx := fun _ H' => Q .non H', rt := Q } (L2.start N vs) H := by
  subst e
  exact h.body (z_mono (hz (fun z => nomatch z) fun x e => nomatch e) (fun Γ' ⟨t, e, q⟩ => by cases e; exact q) (fun c Γ' ⟨t, e, q⟩ => by cases e; exact q) (fun _ ⟨_, _, z⟩ => z) fun _ ⟨_, _, z⟩ => z)
end
end G
end

noncomputable section
/-! M3: exceptions and instances, with models. -/
namespace G
open PySem PySem.Spec PyProof.Rows L2 PySem.W
/-- c is k, or k is a base of c -/
def XC.isA (c k : XC) : Bool := decide (k = .ComesapartError) || decide (c = k)
def M.raise0 {α : Type} (c : XC) : M α := .exc ⟨c, none⟩
def M.raise1 {α : Type} (c : XC) (f : Str) (m : M Int) : M α := m >>= fun n => .exc ⟨c, some [(f, .int n)]⟩
def M.raise2 {α : Type} (c : XC) (f1 f2 : Str) (m1 m2 : M Int) : M α := m1 >>= fun n => m2 >>= fun n2 => .exc ⟨c, some [(f2, .int n2), (f1, .int n)]⟩
/-- try: m; except: h, for the classes that p tells; kn: the classes that are known -/
def M.tryK {α : Type} (kn p : XC → Bool) (m : M α) (h : PX → M α) : M α := match m with | .exc x => if kn x.cls then (if p x.cls then h x else .exc x) else .bad | m => m
/-- e.f where e is of the class c -/
def PX.fld (x : PX) (c : XC) (f : Str) : M Int := if x.cls = c then (match x.fs with | some fs => (match fs.lookup f with | some (.int n) => .ok n | _ => .bad) | none => .bad) else .bad
section
variable {tx : XC → Addr} {Y : YC} {Γ : List Cell} {te ta tb tc td tl t1 t2 : TE} {α β γ τ : Type} {d : Dat α} {d1 : Dat α} {d2 : Dat β} {ts rest : TS} {js : List Nat} {K : Kt τ} {Cx : Addr} {f1 f2 : Str} {Wt : WX}
theorem zm_raise0 {c : XC} (hE : Y.E = WE Wt) (hc : tx c = Cx) : Zm tx Y js (tSeq (fun _ σ H => (fun (_ : L2.St) (H : Hp) (Q : XK) => Q (.ref Cx) none H) σ H fun cls d H' => Wt cls d σ H') rest) Γ K (M.raise0 c) := fun nb xk => by
  subst hc
  exact z_raise0 (k := K.ks (M.raise0 c)) hE (xk ⟨c, none⟩ rfl Γ rfl)
theorem zm_raise1 {c : XC} {m : M Int} (hE : Y.E = WE Wt) (hc : tx c = Cx) (h : Re tx Y te Γ dInt m) : Zm tx Y js (tSeq (fun _ σ H => tMkO Cx (spX1 Cx f1) [] (tCons te tNil) σ H fun cls d H' => Wt cls d σ H') rest) Γ K (M.raise1 c f1 m) := fun nb xk => by
  subst hc
  exact z_raise1 (k := K.ks (M.raise1 c f1 m)) hE (r_mono (h (M.nb1 nb) xk.l.here) fun n e => xk ⟨c, some [(f1, .int n)]⟩ (by unfold M.raise1; rw [e]; rfl) Γ rfl)
theorem zm_raise2 {c : XC} {m n : M Int} (hE : Y.E = WE Wt) (hc : tx c = Cx) (h : Re tx Y t1 Γ dInt m) (h2 : Re tx Y t2 Γ dInt n) : Zm tx Y js (tSeq (fun _ σ H => tMkO Cx (spX2 Cx f1 f2) [] (tCons t1 (tCons t2 tNil)) σ H fun cls d H' => Wt cls d σ H') rest) Γ K (M.raise2 c f1 f2 m n) := fun nb xk => by
  subst hc
  refine z_raise2 (k := K.ks (M.raise2 c f1 f2 m n)) hE (h.k nb xk.here fun x e nb3 xk3 => r_mono (h2 (M.nb1 nb3) xk3.l) fun y e2 => xk ⟨c, some [(f2, .int y), (f1, .int x)]⟩ ?_ Γ rfl)
  unfold M.raise2; rw [e]; show (n >>= _) = _; rw [e2]; rfl
theorem z_wipeSet {k : Ks} {i : Nat} {c : Cell} : ∀ (js : List Nat) {Γ : List Cell}, Z Y ts ((wipeC Γ js).set i c) k → Z Y ts (Γ.set i c) k
  | [], _, h => h
  | j :: js, Γ, h => by
    refine z_wipeSet js ?_
    unfold wipeC at h
    by_cases hj : j = i
    · subst hj
      rw [List.set_set] at h
      exact h
    · rw [set_comm _ _ _ hj] at h
      exact z_wipe [j] h
/-- try: body; except c as the name at i: suite; a def's last statement -/
theorem zm_try {ρ : Type} {cell : ρ → Cell} (jt : List Nat) {tb : WX → TS} {tsu : Addr → Value → Option Addr → TS} {i : Nat} {cv : Value} {Wout : WX} {kn p : XC → Bool} {m : M ρ} {h : PX → M ρ} (hE : Y.E = WE Wout) (hi : ∃ c0, Γ[i]? = some c0) (hj : ∀ j ∈ jt, j ∈ js) (hij : i ∈ js)
    (hex : ∀ c, kn c = true → exmOne Y.K (.ref (tx c)) cv = some (p c))
    (hb : ∀ (W : WX) (kb : Exn → List Cell → Prop), Zm tx ⟨Y.g, WE W, kb⟩ jt (tb W) Γ (KF cell) m)
    (hs : ∀ px a d, kn px.cls = true → p px.cls = true → Zm tx Y js (tsu a (.ref (tx px.cls)) d) ((wipeC Γ jt).set i (.val (dExn a d) (px.x tx))) (KF cell) (h px)) :
    Zm tx Y js (tSeq (fun D σ H => tb (wAs Y.K cv i tsu Wout D) D σ H) tNext) Γ (KF cell) (M.tryK kn p m h) := fun nb xk => by
  have wj : ∀ {Γ' : List Cell}, wipeC Γ' jt = wipeC Γ jt → wipeC Γ' js = wipeC Γ js := by
    intro Γ' e
    have key : ∀ (G : List Cell) (l : List Nat), (∀ j ∈ l, j ∈ js) → wipeC (wipeC G l) js = wipeC G js := by
      intro G l
      induction l with
      | nil => intro _; rfl
      | cons j l ih => intro hl; show wipeC ((wipeC G l).set j .no) js = _; rw [wipeC_set (hl j List.mem_cons_self)]; exact ih fun k hk => hl k (List.mem_cons_of_mem _ hk)
    rw [← key Γ' jt hj, e, key Γ jt hj]
  have nbm : m.nb := fun z => nb (by unfold M.tryK; rw [z])
  have hz : Z Y (fun D σ H => tb (wAs Y.K cv i tsu Wout D) D σ H) Γ ((KF cell).ks (M.tryK kn p m h)) := by
    refine z_tryAs (fun x Γ' => ∃ px, m = .exc px ∧ x = px.x tx ∧ wipeC Γ' jt = wipeC Γ jt) hE (fun W => ?_) fun x Γ' ⟨px, em, ex, hΓ⟩ => ?_
    · refine z_mono (hb W _ nbm fun x e Γ' hΓ => ⟨x, e, rfl, hΓ⟩) (fun Γ' ⟨t, e, q⟩ => ⟨t, by unfold M.tryK; rw [e], q⟩) (fun c Γ' ⟨t, e, q⟩ => ⟨t, by unfold M.tryK; rw [e], q⟩) (fun _ ⟨_, _, z⟩ => z.elim) fun _ ⟨_, _, z⟩ => z.elim
    · subst ex
      have hkn : kn px.cls = true := by
        cases hk : kn px.cls with
        | true => rfl
        | false => exact absurd (by unfold M.tryK; rw [em]; show (if kn px.cls = true then _ else _) = _; rw [hk]; rfl) nb
      refine ⟨p px.cls, hex _ hkn, fun hp => ⟨?_, fun a d => ?_⟩, fun hp => ?_⟩
      · obtain ⟨c0, hc0⟩ := hi
        have hl : i < Γ'.length := by
          have e1 : Γ'.length = Γ.length := by rw [← wipeC_len Γ' jt, hΓ, wipeC_len]
          rw [e1]; exact (List.getElem?_eq_some_iff.mp hc0).1
        exact ⟨_, List.getElem?_eq_getElem hl⟩
      · have et : M.tryK kn p m h = h px := by unfold M.tryK; rw [em]; show (if kn px.cls = true then (if p px.cls = true then _ else _) else _) = _; rw [hkn, hp]; rfl
        refine z_wipeSet jt ?_
        rw [hΓ]
        have hw2 : wipeC ((wipeC Γ jt).set i (.val (dExn a d) (px.x tx))) js = wipeC Γ js := by
          rw [wipeC_set hij]; exact wj (wipeC_idem Γ jt)
        have q := hs px a d hkn hp (by rw [← et]; exact nb) (fun y ey Γ2 e2 => xk y (by rw [et]; exact ey) Γ2 (e2.trans hw2))
        refine z_mono q (fun Γ2 ⟨t, e, q⟩ => ⟨t, by rw [et]; exact e, q⟩) (fun c Γ2 ⟨t, e, q⟩ => ⟨t, by rw [et]; exact e, q⟩) (fun _ ⟨_, _, z⟩ => z.elim) fun _ ⟨_, _, z⟩ => z.elim
      · exact xk px (by unfold M.tryK; rw [em]; show (if kn px.cls = true then (if p px.cls = true then _ else _) else _) = _; rw [hkn, hp]; rfl) Γ' (wj hΓ)
  exact hz
/-- isinstance of the caught -/
theorem we_isX {a : Addr} {dd : Option Addr} {px : PX} {i : Nat} {c : V} {cv : Value} {kn : XC → Bool} {b : XC → Bool} (hi : Γ[i]? = some (.val (dExn a dd) (px.x tx))) (hkn : kn px.cls = true) (C : ∀ c, kn c = true → ExcC Y.K (tx c)) (hv : ∀ u, RelV c u → u = cv) (hk : ∀ c, kn c = true → kitOne Y.K (.ref (tx c)) cv = some (b c)) :
    We tx Y (tCB (rIsX Y.K a (.ref (tx px.cls)) dd) (tCons (tVar i) (tCons (tC c) tNil))) Γ dBool (.ok (b px.cls)) := fun nb xk => w_isX (x := px.x tx) hi rfl (C px.cls hkn) hv (hk px.cls hkn) rfl
theorem we_xf {a : Addr} {dd : Option Addr} {px : PX} {i : Nat} {c : XC} {f : Str} (hi : Γ[i]? = some (.val (dExn a dd) (px.x tx))) (hc : tx c = Cx) : We tx Y (tXf a (.ref (tx px.cls)) dd Cx f (tVar i)) Γ dInt (px.fld c f) := fun nb xk => by
  subst hc
  unfold PX.fld at nb ⊢
  split at nb
  · next hcls =>
    cases hfs : px.fs with
    | none => rw [hfs] at nb; exact absurd rfl nb
    | some fs =>
      rw [hfs] at nb
      cases hl : fs.lookup f with
      | none => simp only [hl] at nb; exact absurd rfl nb
      | some v =>
        cases v with
        | int n =>
          rw [if_pos hcls]
          exact w_xf (x := px.x tx) (n := n) (fs := fs) hi rfl (by show tx px.cls = _; rw [hcls]) hfs hl (by simp only [hl])
        | _ => simp only [hl] at nb; exact absurd rfl nb
  · exact absurd rfl nb
/-! making an instance -/
/-- the end of an __init__ -/
def KI {α : Type} {d : Dat α} (od : OD α) (p : Addr) : Kt α := ⟨fun t Γ => Γ[0]? = some (.own d od (some (.ref p)) t), fun _ _ _ => False, fun _ _ => False, fun _ _ => False⟩
theorem zm_endI {od : @OD α d} {p : Addr} {x : α} (h : Γ[0]? = some (.own d od (some (.ref p)) x)) : Zm tx Y js tNext Γ (KI od p) (.ok x) := fun nb xk => z_next (k := (KI od p).ks (M.ok x)) ⟨x, rfl, h⟩
theorem zm_fld1 {C0 : Addr} {f : Str} {i : Nat} {pin : Option V} {x : Ob0} {m1 : M β} {m2 : β → M τ} (hi : Γ[i]? = some (.own (dOb0 C0) (oOb0 C0) pin x)) (hj : i ∈ js) (c : Cls Y.K C0) (n : NoAttr Y.K C0 f) (h : We tx Y te Γ d2 m1) (h2 : ∀ y, Zm tx Y js rest (Γ.set i (.own (dOb1 C0 f) (oOb1 C0 f) pin ⟨y⟩)) K (m2 y)) :
    Zm tx Y js (tSeq (sFld Y.K (tVar i) te f) rest) Γ K (m1 >>= m2) := fun nb xk => z_seq (z_fld1 hi c n (w_mono (h (M.nb1 nb) xk.l.here) fun y e => (h2 y).go nb xk e (wipeC_set hj)))
theorem zm_fld2 {C0 : Addr} {f f0 : Str} {i : Nat} {pin : Option V} {x : Ob1 α} {m1 : M β} {m2 : β → M τ} (hi : Γ[i]? = some (.own (dOb1 (d1 := d) C0 f0) (oOb1 (d1 := d) C0 f0) pin x)) (hj : i ∈ js) (hne : (f0 == f) = false) (c : Cls Y.K C0) (n : NoAttr Y.K C0 f) (h : We tx Y te Γ d2 m1) (h2 : ∀ y, Zm tx Y js rest (Γ.set i (.own (dOb2 (d1 := d) (d2 := d2) C0 f0 f) (oOb2 (d1 := d) (d2 := d2) C0 f0 f) pin ⟨x.a, y⟩)) K (m2 y)) :
    Zm tx Y js (tSeq (sFld Y.K (tVar i) te f) rest) Γ K (m1 >>= m2) := fun nb xk => z_seq (z_fld2 hi hne c n (w_mono (h (M.nb1 nb) xk.l.here) fun y e => (h2 y).go nb xk e (wipeC_set hj)))
theorem Zm.bodyI {C : GCtx} {N : List Str} {C0 : Addr} {od : @OD α d} {m : M α} {vs : List V} {H : Hp} {Q : VK} {E : XK} (nb : m.nb) (h : FnI C od C0 Γ (fun r => m = .ok r) (fun x => ∃ px, m = .exc px ∧ x = px.x tx) vs H Q E)
    (hz : ∀ p, Zm tx ⟨C, fun _ => E, fun x _ => ∃ px, m = .exc px ∧ x = px.x tx⟩ js ts (.own (dOb0 C0) (oOb0 C0) (some (.ref p)) ⟨()⟩ :: (Γ ++ List.replicate (N.length - (Γ.length + 1)) .no)) (KI od p) m) : ts { nx := fun _ H' => Q .non H', rt := Q } (L2.start N vs) H :=
  h.body fun p => z_mono (hz p nb fun x e Γ' _ => ⟨x, e, rfl⟩) (fun Γ' ⟨t, e, q⟩ => ⟨t, q, e⟩) (fun _ _ ⟨_, _, z⟩ => z.elim) (fun _ ⟨_, _, z⟩ => z) fun _ ⟨_, _, z⟩ => z
end
end G
end

noncomputable section
/-! M4: the program's classes; more rules. -/
namespace G
open PySem PySem.Spec PyProof.Rows L2 PySem.W
theorem kitCls_ref {K : Frag} {t : Value} {C : Addr} {cd : ClassData} {b : Bool} (h1 : clsIn K C = some cd) (h2 : typeIn K (.ref C) = some (.type "type")) (h3 : subIn K t (.ref C) = some b) : kitCls K t (.ref C) = some b := by
  show (if ((clsIn K C).isSome && typeIn K (.ref C) == some (.type "type")) = true then subIn K t (.ref C) else none) = _
  rw [h1, h2, h3]
  exact if_pos (by simp)
theorem kit_refT {K : Frag} {t : Value} {C : Addr} {cd : ClassData} (h1 : clsIn K C = some cd) (h2 : typeIn K (.ref C) = some (.type "type")) (h3 : subIn K t (.ref C) = some true) : kitOne K t (.ref C) = some true := by
  unfold kitOne
  rw [kitCls_ref h1 h2 h3]
  split <;> rfl
theorem kit_refF {K : Frag} {D C : Addr} {cd : ClassData} (hne : D ≠ C) (h1 : clsIn K C = some cd) (h2 : typeIn K (.ref C) = some (.type "type")) (h3 : subIn K (.ref D) (.ref C) = some false) : kitOne K (.ref D) (.ref C) = some false := by
  unfold kitOne
  rw [kitCls_ref h1 h2 h3]
  exact if_neg (fun z => hne (Value.ref.inj (beq_iff_eq.mp z)))
theorem exm_ref {K : Frag} {t : Value} {C : Addr} {cd : ClassData} {b : Bool} (h0 : subIn K (.ref C) (.type "BaseException") = some true) (h1 : clsIn K C = some cd) (h2 : typeIn K (.ref C) = some (.type "type")) (h3 : subIn K t (.ref C) = some b) : exmOne K t (.ref C) = some b := by
  unfold exmOne
  rw [h0, kitCls_ref h1 h2 h3]
  rfl
theorem kit_VE {K : Frag} {D : Addr} (h : subIn K (.ref D) (.type "ValueError") = some true) : kitOne K (.ref D) (.type "ValueError") = some true := by
  unfold kitOne kitCls
  rw [if_neg (by simp)]
  show (if kitMeta "ValueError" = true then subIn K (.ref D) (.type "ValueError") else none) = _
  rw [if_pos (by decide +kernel), h]
/-- the program's classes of objects -/
inductive OC where
  | Web | PairedWeb | Wiring | Sum | Kind | Desk | Likeness | Batch
  deriving DecidableEq
/-- where the classes stand -/
structure CA3 where
  tx : XC → Addr
  ob : OC → Addr
abbrev T4I := T4 Int Int Int Int
abbrev WebM := Ob2 (Tup Int) (Tup (T4 Int Int Int Int))
abbrev PairedWebM := Ob2 Int (Tup (Int × Int))
abbrev LikenessM := Ob2 Int (Tup (Int × Int))
abbrev SumM := Ob1 (Tup (Int × Tup Int))
section
variable (A : CA3)
@[reducible] def dWeb : Dat WebM := dOb2 (d1 := (dTup (d := dInt))) (d2 := (dTup (d := (dT4 (d1 := dInt) (d2 := dInt) (d3 := dInt) (d4 := dInt))))) (A.ob .Web) "sides" "ties"
@[reducible] def oWeb : @OD WebM (dWeb A) := oOb2 (d1 := (dTup (d := dInt))) (d2 := (dTup (d := (dT4 (d1 := dInt) (d2 := dInt) (d3 := dInt) (d4 := dInt))))) (A.ob .Web) "sides" "ties"
theorem isI_Web : IsI (dWeb A) (A.ob .Web) ["sides", "ties"] := isI2
theorem isF_Web_sides : IsF (dWeb A) (A.ob .Web) "sides" (dTup (d := dInt)) Ob2.a := isF2a
theorem isF_Web_ties : IsF (dWeb A) (A.ob .Web) "ties" (dTup (d := (dT4 (d1 := dInt) (d2 := dInt) (d3 := dInt) (d4 := dInt)))) Ob2.b := isF2b (by decide)
@[reducible] def dPairedWeb : Dat PairedWebM := dOb2 (d1 := dInt) (d2 := (dTup (d := (dPair (d1 := dInt) (d2 := dInt))))) (A.ob .PairedWeb) "pairs" "free"
@[reducible] def oPairedWeb : @OD PairedWebM (dPairedWeb A) := oOb2 (d1 := dInt) (d2 := (dTup (d := (dPair (d1 := dInt) (d2 := dInt))))) (A.ob .PairedWeb) "pairs" "free"
theorem isI_PairedWeb : IsI (dPairedWeb A) (A.ob .PairedWeb) ["pairs", "free"] := isI2
theorem isF_PairedWeb_pairs : IsF (dPairedWeb A) (A.ob .PairedWeb) "pairs" dInt Ob2.a := isF2a
theorem isF_PairedWeb_free : IsF (dPairedWeb A) (A.ob .PairedWeb) "free" (dTup (d := (dPair (d1 := dInt) (d2 := dInt)))) Ob2.b := isF2b (by decide)
@[reducible] def dLikeness : Dat LikenessM := dOb2 (d1 := dInt) (d2 := (dTup (d := (dPair (d1 := dInt) (d2 := dInt))))) (A.ob .Likeness) "size" "_like"
@[reducible] def oLikeness : @OD LikenessM (dLikeness A) := oOb2 (d1 := dInt) (d2 := (dTup (d := (dPair (d1 := dInt) (d2 := dInt))))) (A.ob .Likeness) "size" "_like"
theorem isI_Likeness : IsI (dLikeness A) (A.ob .Likeness) ["size", "_like"] := isI2
theorem isF_Likeness_size : IsF (dLikeness A) (A.ob .Likeness) "size" dInt Ob2.a := isF2a
theorem isF_Likeness__like : IsF (dLikeness A) (A.ob .Likeness) "_like" (dTup (d := (dPair (d1 := dInt) (d2 := dInt)))) Ob2.b := isF2b (by decide)
@[reducible] def dSum : Dat SumM := dOb1 (d1 := (dTup (d := (dPair (d1 := dInt) (d2 := (dTup (d := dInt))))))) (A.ob .Sum) "_rows"
@[reducible] def oSum : @OD SumM (dSum A) := oOb1 (d1 := (dTup (d := (dPair (d1 := dInt) (d2 := (dTup (d := dInt))))))) (A.ob .Sum) "_rows"
theorem isI_Sum : IsI (dSum A) (A.ob .Sum) ["_rows"] := isI1
theorem isF_Sum__rows : IsF (dSum A) (A.ob .Sum) "_rows" (dTup (d := (dPair (d1 := dInt) (d2 := (dTup (d := dInt)))))) Ob1.a := isF1
end
section
variable {tx : XC → Addr} {Y : YC} {Γ : List Cell} {te ta tb tc td tl t1 t2 : TE} {α β γ δ τ : Type} {d : Dat α} {d1 : Dat α} {d2 : Dat β} {d3 : Dat γ} {d4 : Dat δ}
/-! operators with written numbers -/
theorem we_modC {m : M Int} {j : Int} (h : Re tx Y ta Γ dInt m) (h2 : Re tx Y tb Γ dInt (.ok j)) (hj : 0 < j := by decide) : We tx Y (tOp (rI (fun _ j => 0 < j) fun i j => .int (i % j)) ta tb) Γ dInt (m >>= fun x => .ok (x % j)) := we_eq (we_mod h h2) (by cases m <;> first | rfl | exact M.asrt_pos hj)
theorem we_fdivC {m : M Int} {j : Int} (h : Re tx Y ta Γ dInt m) (h2 : Re tx Y tb Γ dInt (.ok j)) (hj : CDiv 0 j := by decide) : We tx Y (tOp (rI CDiv fun i j => .int (i / j)) ta tb) Γ dInt (m >>= fun x => .ok (x / j)) := we_eq (we_fdiv h h2) (by cases m <;> first | rfl | exact M.asrt_pos hj)
theorem we_mulCr {m : M Int} {j : Int} (h : Re tx Y ta Γ dInt m) (h2 : Re tx Y tb Γ dInt (.ok j)) (hj : -(2 ^ 64) < j ∧ j < 2 ^ 64 := by decide) : We tx Y (tOp (rI CMul fun i j => .int (i * j)) ta tb) Γ dInt (m >>= fun x => .ok (x * j)) := we_eq (we_mul h h2) (by cases m <;> first | rfl | exact M.asrt_pos (.inr hj))
theorem we_mulCl {m : M Int} {j : Int} (h : Re tx Y ta Γ dInt (.ok j)) (h2 : Re tx Y tb Γ dInt m) (hj : -(2 ^ 64) < j ∧ j < 2 ^ 64 := by decide) : We tx Y (tOp (rI CMul fun i j => .int (i * j)) ta tb) Γ dInt (m >>= fun x => .ok (j * x)) := we_eq (we_mul h h2) (by cases m <;> first | rfl | exact M.asrt_pos (.inl hj))
/-! lists joined -/
def M.cat {α : Type} (xs ys : List α) : M (List α) := M.asrt (xs.length + ys.length ≤ PySem.sizeLine) (.ok (xs ++ ys))
/-! sets, dicts -/
theorem oe_set0 : Oe tx Y (tCB (rSet0 Y.w) tNil) Γ oSet (.ok ⟨[]⟩) := fun _ _ => o_set0 rfl
theorem oe_dict0 : Oe tx Y tDNewK Γ (oDI (d := d)) (.ok ⟨[]⟩) := fun _ _ => o_dict0 rfl
theorem we_inDI {m : M Int} {n : M (DI α)} (h : Re tx Y ta Γ dInt m) (h2 : Re tx Y tb Γ (dDI (d := d)) n) : We tx Y (tDIn ta tb) Γ dBool (m >>= fun x => n >>= fun s => .ok (s.kv.lookup x).isSome) := we_p2 (f := fun (x : Int) (s : DI α) => (s.kv.lookup x).isSome) (fun k h => w_inDI h) h h2
theorem we_notinDI {m : M Int} {n : M (DI α)} (h : Re tx Y ta Γ dInt m) (h2 : Re tx Y tb Γ (dDI (d := d)) n) : We tx Y (tDNotIn ta tb) Γ dBool (m >>= fun x => n >>= fun s => .ok (!(s.kv.lookup x).isSome)) := we_p2 (f := fun (x : Int) (s : DI α) => !(s.kv.lookup x).isSome) (fun k h => w_notinDI h) h h2
theorem we_dget {m : M (DI α)} {n : M Int} (h : We tx Y ta Γ (dDI (d := d)) m) (h2 : Re tx Y tb Γ dInt n) : We tx Y (tDGet ta tb) Γ d (m >>= fun s => n >>= fun x => M.ofO (s.kv.lookup x)) := we_l2 (f := fun (s : DI α) (x : Int) => s.kv.lookup x) (fun k h => w_dget h) h h2
theorem re_dget {m : M (DI α)} {n : M Int} (h : Re tx Y ta Γ (dDI (d := d)) m) (h2 : Re tx Y tb Γ dInt n) : Re tx Y (tDGet ta tb) Γ d (m >>= fun s => n >>= fun x => M.ofO (s.kv.lookup x)) := re_l2 (f := fun (s : DI α) (x : Int) => s.kv.lookup x) (fun k h => r_dget h) h h2
end
end G
namespace L2
open PySem PySem.Spec PyProof.Rows
section
variable {X : Cx} (K : PySem.W.Frag)
theorem pg_tupK {es : List Expr} {k n : Nat} {t : TGs} {pos : Pos} (hc : X.calm = true) (h : PGs X es t) (hn : (assignEach es X.env).length = n := by rfl) (hst : (assignEach es X.env).findIdx? (·.1) = none := by rfl) (hK : X.K = K := by rfl) : PG X (.Tuple es k pos) (gTup K n t) := hK ▸ pg_tup hc h hn hst
theorem fld_K {e : Expr} {te : TE} {f : Str} {pos : Pos} (he : PE X e te) (hb : attributeBase e f X.env (eval e X.env) = eval e X.env) (hK : X.K = K := by rfl) : PE X (.Attribute e f pos) (tFld K te f) := hK ▸ pe_fld he hb
theorem con_K {e : Expr} {te : TE} {f : Str} {pos : Pos} (he : PE X e te) (hb : attributeBase e f X.env (eval e X.env) = eval e X.env) (hK : X.K = K := by rfl) : PE X (.Attribute e f pos) (tCon K te f) := hK ▸ pe_con he hb
end
/-- try: body; except c as the name at i: suite -/
def tTry (K : PySem.W.Frag) (c : Value) (i : Nat) (tb : WX → TS) (ts : Addr → Value → Option Addr → TS) (Wout : WX) : TS := fun D σ H => tb (wAs K c i ts Wout D) D σ H
section
variable {X : Cx} {x n : Str} {c : Value} {i : Nat} {body suite : List Stmt} {b₀ : Stmt} {np pos pos' : Pos} {tb : WX → TS} {ts : Addr → Value → Option Addr → TS} {Wout : WX}
theorem try_as (K : PySem.W.Frag) (hs : X.stack = X.env :: X.outer) (hf : X.env.frame = some X.env.locals) (hN : X.N.Nodup) (hi : X.N[i]? = some n) (hln : X.env.kindOf n = some .local) (hc : Names X x c) (tk : Takes X Wout)
    (hb : ∀ (W : WX) (pn : List (Addr × Obj)) (xe : Value → Shared → Prop), Takes (X.tr pn xe) W → PassesOwn (model X.prog X.w) X.A X.env xe → PSs (X.tr pn xe) body (tb W))
    (hsu : ∀ (a : Addr) (oe : Obj) (cls : Value) (d : Option Addr) (pn : List (Addr × Obj)), Zc cls d oe → (∃ vs, oe.data = .fields vs) → PSs (X.suite a ((a, oe) :: pn)) (b₀ :: suite) (ts a cls d)) (hK : X.K = K := by rfl) :
    PS X (.Try body [.ExceptHandler (some (.Name x np)) (some n) (b₀ :: suite) pos'] [] [] pos) (tTry K c i tb ts Wout) := hK ▸ ps_try_as hs hf hN hi hln hc tk hb hsu
end
end L2
namespace G
open PySem PySem.Spec PyProof.Rows L2 PySem.W
theorem zm_tryT {tx : XC → Addr} {Y : YC} {Γ : List Cell} {js : List Nat} {ρ : Type} {cell : ρ → Cell} (jt : List Nat) {tb : WX → TS} {tsu : Addr → Value → Option Addr → TS} {i : Nat} {cv : Value} {Wout : WX} {kn p : XC → Bool} {m : M ρ} {h : PX → M ρ} (hE : Y.E = WE Wout) (hi : ∃ c0, Γ[i]? = some c0) (hj : ∀ j ∈ jt, j ∈ js) (hij : i ∈ js)
    (hex : ∀ c, kn c = true → exmOne Y.K (.ref (tx c)) cv = some (p c))
    (hb : ∀ (W : WX) (kb : Exn → List Cell → Prop), Zm tx ⟨Y.g, WE W, kb⟩ jt (tb W) Γ (KF cell) m)
    (hs : ∀ px a d, kn px.cls = true → p px.cls = true → Zm tx Y js (tsu a (.ref (tx px.cls)) d) ((wipeC Γ jt).set i (.val (dExn a d) (px.x tx))) (KF cell) (h px)) :
    Zm tx Y js (tSeq (tTry Y.K cv i tb tsu Wout) tNext) Γ (KF cell) (M.tryK kn p m h) := zm_try jt hE hi hj hij hex hb hs
end G
end

noncomputable section
/-! M5: more rules: lists joined and repeated, list(range), pop(i), insert, sum, None. -/
namespace L2
open PySem PySem.Spec PyProof.Rows
section
variable {X : Cx}
/-- xs + ys, lists that are read -/
def rCatR : R2 := fun x y H Q => ∃ l b xs zs, x = .ref l ∧ y = .ref b ∧ Rd H l (.lst xs) ∧ Rd H b (.lst zs) ∧ xs.length + zs.length ≤ sizeLine ∧ ∀ p, H p = none → Q (.ref p) (upd H p (.lst (xs ++ zs)))
theorem op_catR : OpR X (binaryOp .Add) rCatR := by
  intro pins s σ H x y v u Q I rx ry h
  obtain ⟨l, b, xs, zs, rfl, rfl, hH, hB, hz, q⟩ := h
  cases rx
  cases ry
  obtain ⟨z, its, n, r, e⟩ := hH.ok I.hok
  obtain ⟨z2, its2, n2, r2, e2⟩ := hB.ok I.hok
  have hl := r.length
  have hl2 := r2.length
  refine PySem.P.add_list e e2 ?_ (by rw [List.size_toArray, List.size_toArray]; omega)
  have ea : its.toArray ++ its2.toArray = (its ++ its2).toArray := by simp
  rw [ea]
  exact ⟨.ref _, _, I.lnew (t' := s.toks) (r.append r2) (by rw [List.length_append]; omega), rfl, q _ I.fresh⟩
/-- xs * n, a list that is read -/
def rRepR : R2 := fun x y H Q => ∃ l k xs, x = .ref l ∧ y = .int k ∧ Rd H l (.lst xs) ∧ -(2 ^ 63) ≤ k ∧ k < 2 ^ 63 ∧ xs.length * k.toNat ≤ sizeLine ∧
  ∀ p, H p = none → Q (.ref p) (upd H p (.lst (List.replicate k.toNat xs).flatten))
theorem op_repR : OpR X (binaryOp .Mult) rRepR := by
  intro pins s σ H x y v u Q I rx ry h
  obtain ⟨l, k, xs, rfl, rfl, hH, h1, h2, hz, q⟩ := h
  cases rx
  obtain ⟨t, rfl⟩ := ry
  obtain ⟨z, its, n, r, e⟩ := hH.ok I.hok
  have hl := r.length
  have hlen : its.toArray.size * k.toNat ≤ sizeLine := by rw [List.size_toArray, ← hl]; exact hz
  have hcap : ¬ its.toArray.size * k.toNat > (2 ^ 63 - 1) / 8 := by
    have : (sizeLine : Nat) ≤ (2 ^ 63 - 1) / 8 := by decide
    omega
  have hfit : ¬ (!Builtin.List.listFitsIndex k) = true := by
    rw [fitsIndex_both h1 h2]
    exact Bool.false_ne_true
  have hlong : ¬ Builtin.List.listTooLong (its.toArray.size * k.toNat) = true := by
    rw [notLongL hlen]
    exact Bool.false_ne_true
  have hnew : List.foldl (fun x1 x2 => x1 ++ x2) #[] (List.replicate (if its.toArray.isEmpty = true then 0 else k.toNat) its.toArray) = (List.replicate k.toNat its).flatten.toArray := by
    have f0 : ∀ m : Nat, List.foldl (fun x1 x2 => x1 ++ x2) #[] (List.replicate m its.toArray) = (List.replicate m its).flatten.toArray := fun m => by
      have := foldl_rep its m []
      rw [List.nil_append] at this
      exact this
    rw [f0]
    cases its with
    | nil => simp
    | cons a r' => rw [if_neg (by simp)]
  refine wpAny_binaryOp_repeat_ref (T := "list") (U := "int") (by decide) ⟨_, e, rfl⟩ (fun s' => typeIs_int s' k t) noFill_list_mul F.fills_int_mul F.slot_int_rmul repeat_list F.slot_int_index.lookup
    (call_meets F.slot_int_rmul (typeIs_int s k t) F.entry_int_rmul (F.args_int_rmul_2 _ _) (int___rmul___int_list k t l its.toArray n)
      ⟨e, rfl, ⟨_, e, rfl⟩, call_meets F.slot_list_mul ⟨_, e, rfl⟩ F.entry_list_mul (F.args_list_mul_2 _ _) (AutoListH.list___mul___list_int_3 l its.toArray n k t hfit hcap hlong) ⟨e, ?_⟩⟩)
  rw [hnew]
  exact ⟨.ref _, _, I.lnew (t' := s.toks) (r.rep k.toNat) (by rw [PyProof.Rows.lm_len_rep_flat, Nat.mul_comm]; exact hz), rfl, q _ I.fresh⟩
end
end L2
namespace G
open PySem PySem.Spec PyProof.Rows L2 PySem.W
theorem Reps.rep {α : Type} {d : Dat α} {C : GCtx} {F : Hp} {vs : List V} {xs : List α} (r : Reps d C F vs xs) : ∀ n, Reps d C F (List.replicate n vs).flatten (List.replicate n xs).flatten
  | 0 => trivial
  | n + 1 => by
    simp only [List.replicate_succ, List.flatten_cons]
    exact r.append (Reps.rep r n)
section
variable {tx : XC → Addr} {Y : YC} {Γ : List Cell} {te ta tb tc td tl t1 t2 : TE} {α β γ δ τ : Type} {d : Dat α} {d1 : Dat α} {d2 : Dat β} {d3 : Dat γ} {ts rest : TS} {js : List Nat} {K : Kt τ}
theorem w_ixQ {k : α → Prop} (h : W Y ta Γ (dSq (d := d)) fun xs => R Y tb Γ dInt fun i => ∃ x, atI xs.l i = some x ∧ k x) : W Y (tOp (rIx Y.K) ta tb) Γ d k := fun e F σ H s Q q => h e F σ H s _ fun v1 F1 H1 xs h1 g1 ⟨a, vs, e1, hs, r⟩ => h1 e F1 σ H1 (s.grow g1) _ fun v2 F2 H2 i ⟨x, hx, kx⟩ g2 r2 => by
  subst e1
  cases (show v2 = .int i from r2)
  obtain ⟨v, hv, rv⟩ := atI_rep r hx
  rcases hs with hs | hs
  · exact .inl ⟨a, vs, i, v, rfl, rfl, (g1.fh.trans g2.hh0).seq hs, hv, q _ F2 H2 x kx (g1.trans0 g2) (d.mono g2.ff rv)⟩
  · exact .inr (.inl ⟨a, vs, i, v, rfl, rfl, (hs.mono (g2.ff.trans g2.fh)).sq, hv, q _ F2 H2 x kx (g1.trans0 g2) (d.mono g2.ff rv)⟩)
theorem we_ixQ {m : M (Sq α)} {n : M Int} (h : We tx Y ta Γ (dSq (d := d)) m) (h2 : Re tx Y tb Γ dInt n) : We tx Y (tOp (rIx Y.K) ta tb) Γ d (m >>= fun xs => n >>= fun i => M.ix xs.l i) := we_l2 (f := fun (xs : Sq α) i => atI xs.l i) (fun k h => w_ixQ h) h h2
theorem we_lenQ' : True := trivial
/-! lists joined, repeated -/
theorem o_cat {k : List α → Prop} (h : W Y ta Γ (dList (d := d)) fun xs => W Y tb Γ (dList (d := d)) fun ys => xs.length + ys.length ≤ PySem.sizeLine ∧ k (xs ++ ys)) : O Y (tOp rCatR ta tb) Γ (oList (d := d)) k := fun e F σ H s Q q => h e F σ H s _ fun v1 F1 H1 xs h1 g1 ⟨a, vs, e1, hs, r⟩ => h1 e F1 σ H1 (s.grow g1) _ fun v2 F2 H2 ys ⟨hl, ky⟩ g2 ⟨b, ws, e2, hs2, r2⟩ => by
  subst e1 e2
  refine ⟨a, b, vs, ws, rfl, rfl, Same.rd (g2.ff.trans g2.fh) hs, Same.rd g2.fh hs2, by rw [r.len, r2.len]; exact hl, fun p hp => ?_⟩
  obtain ⟨h3, h4⟩ := o_new (L := []) g2.base hp ((r.mono g2.ff).append r2)
  exact q _ F2 _ _ _ ky (by simpa using (g1.trans0 g2).trans h3) h4
theorem oe_cat {m n : M (List α)} (h : We tx Y ta Γ (dList (d := d)) m) (h2 : We tx Y tb Γ (dList (d := d)) n) : Oe tx Y (tOp rCatR ta tb) Γ (oList (d := d)) (m >>= fun xs => n >>= fun ys => M.cat xs ys) := fun nb xk =>
  o_cat (h.k nb xk fun xs e nb xk => h2.k nb xk fun ys e2 nb2 _ => ⟨M.asrt_nb nb2, by rw [e]; show (n >>= _) = _; rw [e2]; exact M.asrt_pos (M.asrt_nb nb2)⟩)
def M.rep {α : Type} (xs : List α) (k : Int) : M (List α) := M.asrt (-(2 ^ 63) ≤ k ∧ k < 2 ^ 63 ∧ xs.length * k.toNat ≤ PySem.sizeLine) (.ok (List.replicate k.toNat xs).flatten)
theorem o_rep {k : List α → Prop} (h : W Y ta Γ (dList (d := d)) fun xs => R Y tb Γ dInt fun n => (-(2 ^ 63) ≤ n ∧ n < 2 ^ 63 ∧ xs.length * n.toNat ≤ PySem.sizeLine) ∧ k (List.replicate n.toNat xs).flatten) : O Y (tOp rRepR ta tb) Γ (oList (d := d)) k := fun e F σ H s Q q => h e F σ H s _ fun v1 F1 H1 xs h1 g1 ⟨a, vs, e1, hs, r⟩ => h1 e F1 σ H1 (s.grow g1) _ fun v2 F2 H2 n ⟨⟨l1, l2, l3⟩, ky⟩ g2 r2 => by
  subst e1
  cases (show v2 = .int n from r2)
  refine ⟨a, n, vs, rfl, rfl, Same.rd (g2.ff.trans g2.fh) hs, l1, l2, by rw [r.len]; exact l3, fun p hp => ?_⟩
  obtain ⟨h3, h4⟩ := o_new (L := []) g2.base hp ((r.mono g2.ff).rep n.toNat)
  exact q _ F2 _ _ _ ky (by simpa using (g1.trans0 g2).trans h3) h4
theorem oe_rep {m : M (List α)} {n : M Int} (h : We tx Y ta Γ (dList (d := d)) m) (h2 : Re tx Y tb Γ dInt n) : Oe tx Y (tOp rRepR ta tb) Γ (oList (d := d)) (m >>= fun xs => n >>= fun k => M.rep xs k) := fun nb xk =>
  o_rep (h.k nb xk fun xs e nb xk => h2.k nb xk fun k e2 nb2 _ => ⟨M.asrt_nb nb2, by rw [e]; show (n >>= _) = _; rw [e2]; exact M.asrt_pos (M.asrt_nb nb2)⟩)
/-! list(range(..)) -/
def M.rangeL (a b : Int) : M (List Int) := M.asrt (-(2 ^ 62) ≤ a ∧ a < 2 ^ 62 ∧ -(2 ^ 62) ≤ b ∧ b < 2 ^ 62 ∧ (b - a).toNat ≤ 2 ^ 24) (.ok (rngL a (b - a).toNat))
theorem rgV_L (a b : Int) : rgV a b = (rngL a (b - a).toNat).map V.int := by
  unfold rgV rngL
  rw [List.map_map]; rfl
theorem o_listRg1 {k : List Int → Prop} (h : R Y ta Γ dInt fun n => (-(2 ^ 62) ≤ (0 : Int) ∧ (0 : Int) < 2 ^ 62 ∧ -(2 ^ 62) ≤ n ∧ n < 2 ^ 62 ∧ (n - 0).toNat ≤ 2 ^ 24) ∧ k (rngL 0 (n - 0).toNat)) : O Y (tLstRg (tRg1 ta)) Γ (oList (d := dInt)) k := fun e F σ H s Q q => h e F σ H s _ fun v F1 H1 n ⟨hb, kn⟩ g r => by
  cases (show v = .int n from r)
  refine ⟨n, rfl, hb, fun p hp => ?_⟩
  rw [rgV_L]
  obtain ⟨h3, h4⟩ := o_new (d := dInt) (L := []) g.base hp (Reps.ofInts (rngL 0 (n - 0).toNat))
  exact q _ F1 _ _ _ kn (by simpa using g.trans h3) h4
theorem oe_listRg1 {m : M Int} (h : Re tx Y ta Γ dInt m) : Oe tx Y (tLstRg (tRg1 ta)) Γ (oList (d := dInt)) (m >>= fun n => M.rangeL 0 n) := fun nb xk =>
  o_listRg1 (h.k nb xk fun n e nb2 _ => ⟨M.asrt_nb nb2, by rw [e]; exact M.asrt_pos (M.asrt_nb nb2)⟩)
theorem o_listRg2 {k : List Int → Prop} (h : R Y ta Γ dInt fun a => R Y tb Γ dInt fun b => (-(2 ^ 62) ≤ a ∧ a < 2 ^ 62 ∧ -(2 ^ 62) ≤ b ∧ b < 2 ^ 62 ∧ (b - a).toNat ≤ 2 ^ 24) ∧ k (rngL a (b - a).toNat)) : O Y (tLstRg (tRg2 ta tb)) Γ (oList (d := dInt)) k := fun e F σ H s Q q => h e F σ H s _ fun v F1 H1 a h1 g r => h1 e F1 σ H1 (s.grow g) _ fun v2 F2 H2 b ⟨hb, kn⟩ g2 r2 => by
  cases (show v = .int a from r)
  cases (show v2 = .int b from r2)
  refine ⟨a, b, rfl, rfl, hb, fun p hp => ?_⟩
  rw [rgV_L]
  obtain ⟨h3, h4⟩ := o_new (d := dInt) (L := []) g2.base hp (Reps.ofInts (rngL a (b - a).toNat))
  exact q _ F2 _ _ _ kn (by simpa using (g.trans0 g2).trans h3) h4
theorem oe_listRg2 {m n : M Int} (h : Re tx Y ta Γ dInt m) (h2 : Re tx Y tb Γ dInt n) : Oe tx Y (tLstRg (tRg2 ta tb)) Γ (oList (d := dInt)) (m >>= fun a => n >>= fun b => M.rangeL a b) := fun nb xk =>
  o_listRg2 (h.k nb xk fun a e nb xk => h2.k nb xk fun b e2 nb2 _ => ⟨M.asrt_nb nb2, by rw [e]; show (n >>= _) = _; rw [e2]; exact M.asrt_pos (M.asrt_nb nb2)⟩)
/-! sum, all, min, max -/
theorem w_sum {k : Int → Prop} (h : R Y ta Γ (dList (d := dInt)) fun xs => k xs.sum) : W Y (tCB (rSum Y.K) (tCons ta tNil)) Γ dInt k := fun e F σ H s Q q => h e F σ H s _ fun v F' H' xs kx g ⟨a, vs, e1, hs, r⟩ => by
  subst e1
  cases r.ints
  exact ⟨a, xs, rfl, .inl hs, q _ F' H' _ kx g rfl⟩
theorem we_sum {m : M (List Int)} (h : Re tx Y ta Γ (dList (d := dInt)) m) : We tx Y (tCB (rSum Y.K) (tCons ta tNil)) Γ dInt (m >>= fun xs => .ok xs.sum) := we_p1 (f := List.sum) (fun k h => w_sum h) h
theorem w_all {k : Bool → Prop} (h : R Y ta Γ (dList (d := dBool)) fun xs => k (xs.all id)) : W Y (tCB (rAll Y.K) (tCons ta tNil)) Γ dBool k := fun e F σ H s Q q => h e F σ H s _ fun v F' H' xs kx g ⟨a, vs, e1, hs, r⟩ => by
  subst e1
  cases r.bools
  exact ⟨a, xs, rfl, .inl hs, q _ F' H' _ kx g rfl⟩
theorem we_all {m : M (List Bool)} (h : Re tx Y ta Γ (dList (d := dBool)) m) : We tx Y (tCB (rAll Y.K) (tCons ta tNil)) Γ dBool (m >>= fun xs => .ok (xs.all id)) := we_p1 (f := fun xs : List Bool => xs.all id) (fun k h => w_all h) h
theorem w_any {k : Bool → Prop} (h : R Y ta Γ (dList (d := dBool)) fun xs => k (xs.any id)) : W Y (tCB (rAny Y.K) (tCons ta tNil)) Γ dBool k := fun e F σ H s Q q => h e F σ H s _ fun v F' H' xs kx g ⟨a, vs, e1, hs, r⟩ => by
  subst e1
  cases r.bools
  exact ⟨a, xs, rfl, .inl hs, q _ F' H' _ kx g rfl⟩
theorem we_any {m : M (List Bool)} (h : Re tx Y ta Γ (dList (d := dBool)) m) : We tx Y (tCB (rAny Y.K) (tCons ta tNil)) Γ dBool (m >>= fun xs => .ok (xs.any id)) := we_p1 (f := fun xs : List Bool => xs.any id) (fun k h => w_any h) h
/-- the greatest, the least -/
def maxL (xs : List Int) : Int := xs.foldl (fun a b => if a < b then b else a) (xs.headD 0)
def minL (xs : List Int) : Int := xs.foldl (fun a b => if b < a then b else a) (xs.headD 0)
def M.maxM (xs : List Int) : M Int := M.asrt (0 < xs.length) (.ok (maxL xs))
def M.minM (xs : List Int) : M Int := M.asrt (0 < xs.length) (.ok (minL xs))
theorem foldmax (xs : List Int) : ∀ a : Int, (xs.foldl (fun a b => if a < b then b else a) a = a ∨ xs.foldl (fun a b => if a < b then b else a) a ∈ xs) ∧ a ≤ xs.foldl (fun a b => if a < b then b else a) a ∧ ∀ y ∈ xs, y ≤ xs.foldl (fun a b => if a < b then b else a) a := by
  induction xs with
  | nil => intro a; exact ⟨.inl rfl, Int.le_refl a, fun y hy => nomatch hy⟩
  | cons x xs ih =>
    intro a
    obtain ⟨h1, h2, h3⟩ := ih (if a < x then x else a)
    simp only [List.foldl_cons, List.mem_cons]
    refine ⟨?_, ?_, ?_⟩
    · rcases h1 with h1 | h1
      · rw [h1]; split <;> simp
      · exact .inr (.inr h1)
    · exact Int.le_trans (by split <;> omega) h2
    · rintro y (rfl | hy)
      · exact Int.le_trans (by split <;> omega) h2
      · exact h3 y hy
theorem foldmin (xs : List Int) : ∀ a : Int, (xs.foldl (fun a b => if b < a then b else a) a = a ∨ xs.foldl (fun a b => if b < a then b else a) a ∈ xs) ∧ xs.foldl (fun a b => if b < a then b else a) a ≤ a ∧ ∀ y ∈ xs, xs.foldl (fun a b => if b < a then b else a) a ≤ y := by
  induction xs with
  | nil => intro a; exact ⟨.inl rfl, Int.le_refl a, fun y hy => nomatch hy⟩
  | cons x xs ih =>
    intro a
    obtain ⟨h1, h2, h3⟩ := ih (if x < a then x else a)
    simp only [List.foldl_cons, List.mem_cons]
    refine ⟨?_, ?_, ?_⟩
    · rcases h1 with h1 | h1
      · rw [h1]; split <;> simp
      · exact .inr (.inr h1)
    · exact Int.le_trans h2 (by split <;> omega)
    · rintro y (rfl | hy)
      · exact Int.le_trans h2 (by split <;> omega)
      · exact h3 y hy
theorem maxL_spec {xs : List Int} (h : 0 < xs.length) : maxL xs ∈ xs ∧ ∀ y ∈ xs, y ≤ maxL xs := by
  cases xs with
  | nil => cases h
  | cons x xs =>
    obtain ⟨h1, h2, h3⟩ := foldmax (x :: xs) x
    unfold maxL
    exact ⟨h1.elim (fun z => by rw [show (x :: xs).headD 0 = x from rfl, z]; simp) id, h3⟩
theorem minL_spec {xs : List Int} (h : 0 < xs.length) : minL xs ∈ xs ∧ ∀ y ∈ xs, minL xs ≤ y := by
  cases xs with
  | nil => cases h
  | cons x xs =>
    obtain ⟨h1, h2, h3⟩ := foldmin (x :: xs) x
    unfold minL
    exact ⟨h1.elim (fun z => by rw [show (x :: xs).headD 0 = x from rfl, z]; simp) id, h3⟩
theorem w_maxL {k : Int → Prop} (h : R Y ta Γ (dList (d := dInt)) fun xs => 0 < xs.length ∧ k (maxL xs)) : W Y (tCB (rMax Y.K) (tCons ta tNil)) Γ dInt k := fun e F σ H s Q q => h e F σ H s _ fun v F' H' xs ⟨hl, kx⟩ g ⟨a, vs, e1, hs, r⟩ => by
  subst e1
  cases r.ints
  refine ⟨a, xs, rfl, .inl hs, hl, fun m hm hy => ?_⟩
  obtain ⟨h1, h2⟩ := maxL_spec hl
  have : m = maxL xs := Int.le_antisymm (h2 m hm) (hy _ h1)
  exact q _ F' H' m (this ▸ kx) g rfl
theorem w_minL {k : Int → Prop} (h : R Y ta Γ (dList (d := dInt)) fun xs => 0 < xs.length ∧ k (minL xs)) : W Y (tCB (rMin Y.K) (tCons ta tNil)) Γ dInt k := fun e F σ H s Q q => h e F σ H s _ fun v F' H' xs ⟨hl, kx⟩ g ⟨a, vs, e1, hs, r⟩ => by
  subst e1
  cases r.ints
  refine ⟨a, xs, rfl, .inl hs, hl, fun m hm hy => ?_⟩
  obtain ⟨h1, h2⟩ := minL_spec hl
  have : m = minL xs := Int.le_antisymm (hy _ h1) (h2 m hm)
  exact q _ F' H' m (this ▸ kx) g rfl
theorem we_maxL {m : M (List Int)} (h : Re tx Y ta Γ (dList (d := dInt)) m) : We tx Y (tCB (rMax Y.K) (tCons ta tNil)) Γ dInt (m >>= M.maxM) := fun nb xk => w_maxL (h.k nb xk fun xs e nb2 _ => ⟨M.asrt_nb nb2, by rw [e]; exact M.asrt_pos (M.asrt_nb nb2)⟩)
theorem we_minL {m : M (List Int)} (h : Re tx Y ta Γ (dList (d := dInt)) m) : We tx Y (tCB (rMin Y.K) (tCons ta tNil)) Γ dInt (m >>= M.minM) := fun nb xk => w_minL (h.k nb xk fun xs e nb2 _ => ⟨M.asrt_nb nb2, by rw [e]; exact M.asrt_pos (M.asrt_nb nb2)⟩)
/-! None -/
class NN (α : Type) [d : Dat α] : Prop where
  nn : ∀ {C : GCtx} {F : Hp} {v : V} {x : α}, d.rep C F v x → v ≠ .non
instance : NN Int := ⟨fun {C F v x} h z => by subst z; cases (show V.non = .int x from h)⟩
instance : NN Bool := ⟨fun {C F v x} h z => by subst z; cases (show V.non = .bl x from h)⟩
instance : NN Str := ⟨fun {C F v x} h z => by subst z; cases (show V.non = .str x from h)⟩
instance {α : Type} [d : Dat α] : NN (List α) := ⟨fun ⟨a, vs, e, _⟩ z => by subst z; cases e⟩
instance {α : Type} [d : Dat α] : NN (Tup α) := ⟨fun ⟨a, vs, e, _⟩ z => by subst z; cases e⟩
instance {α β : Type} [d : Dat α] [d2 : Dat β] : NN (α × β) := ⟨fun ⟨a, v1, v2, e, _⟩ z => by subst z; cases e⟩
instance {α β γ : Type} [d : Dat α] [d2 : Dat β] [d3 : Dat γ] : NN (T3 α β γ) := ⟨fun ⟨a, v1, v2, v3, e, _⟩ z => by subst z; cases e⟩
instance {α β γ δ : Type} [d : Dat α] [d2 : Dat β] [d3 : Dat γ] [d4 : Dat δ] : NN (T4 α β γ δ) := ⟨fun ⟨a, v1, v2, v3, v4, e, _⟩ z => by subst z; cases e⟩
def Opt.isNone {α : Type} : Opt α → Bool
  | .none => true
  | .some _ => false
theorem w_isN [nn : @NN α d] {k : Bool → Prop} (h : R Y ta Γ (dOpt (d := d)) fun x => k x.isNone) : W Y (tOp (fun x y H Q => y = .non ∧ Q (.bl (decide (x = .non))) H) ta (tC .non)) Γ dBool k := fun e F σ H s Q q => h e F σ H s _ fun v F' H' x kx g r => ⟨rfl, q _ F' H' _ kx g (by
  cases x with
  | none => cases (show v = .non from r); rfl
  | some y => show V.bl _ = V.bl _; rw [decide_eq_false (nn.nn (show d.rep _ _ v y from r))]; rfl)⟩
theorem w_notN [nn : @NN α d] {k : Bool → Prop} (h : R Y ta Γ (dOpt (d := d)) fun x => k (!x.isNone)) : W Y (tOp (fun x y H Q => y = .non ∧ Q (.bl (!decide (x = .non))) H) ta (tC .non)) Γ dBool k := fun e F σ H s Q q => h e F σ H s _ fun v F' H' x kx g r => ⟨rfl, q _ F' H' _ kx g (by
  cases x with
  | none => cases (show v = .non from r); rfl
  | some y => show V.bl _ = V.bl _; rw [decide_eq_false (nn.nn (show d.rep _ _ v y from r))]; rfl)⟩
theorem we_isN [nn : @NN α d] {m : M (Opt α)} (h : Re tx Y ta Γ (dOpt (d := d)) m) : We tx Y (tOp (fun x y H Q => y = .non ∧ Q (.bl (decide (x = .non))) H) ta (tC .non)) Γ dBool (m >>= fun x => .ok x.isNone) := we_p1 (f := Opt.isNone) (fun k h => w_isN h) h
theorem we_notN [nn : @NN α d] {m : M (Opt α)} (h : Re tx Y ta Γ (dOpt (d := d)) m) : We tx Y (tOp (fun x y H Q => y = .non ∧ Q (.bl (!decide (x = .non))) H) ta (tC .non)) Γ dBool (m >>= fun x => .ok (!x.isNone)) := we_p1 (f := fun x : Opt α => !x.isNone) (fun k h => w_notN h) h
/-! pop(i), insert -/
def M.popAt {α : Type} (xs : List α) (mi : M Int) : M (List α × α) := mi >>= fun n => M.asrt (-(2 ^ 63) ≤ n ∧ n < 2 ^ 63) (match seqIndex? n xs.length with | some k => (match xs[k]? with | some y => .ok (xs.eraseIdx k, y) | none => .bad) | none => .bad)
theorem M.popAt_at {α : Type} {xs : List α} {n : Int} {y : α} (h0 : 0 ≤ n) (h1 : n < 100000000) (hy : xs[n.toNat]? = some y) : M.popAt xs (.ok n) = .ok (xs.eraseIdx n.toNat, y) := by
  have hl : n.toNat < xs.length := (List.getElem?_eq_some_iff.mp hy).1
  have e : seqIndex? n xs.length = some n.toNat := by
    unfold seqIndex?
    have hneg : ¬ (n < 0) := by omega
    simp only [if_neg hneg]
    rw [if_pos (by rw [Bool.and_eq_true]; exact ⟨decide_eq_true h0, decide_eq_true (by omega)⟩)]
  show M.asrt _ _ = _
  rw [M.asrt_pos ⟨by omega, by omega⟩, e]
  show (match xs[n.toNat]? with | some y => _ | none => _) = _
  rw [hy]
theorem M.popAt_nb {α : Type} {xs : List α} {n : Int} (h : (M.asrt (-(2 ^ 63) ≤ n ∧ n < 2 ^ 63) (match seqIndex? n xs.length with | some k => (match xs[k]? with | some y => M.ok (xs.eraseIdx k, y) | none => .bad) | none => .bad)).nb) : (-(2 ^ 63) ≤ n ∧ n < 2 ^ 63) ∧ ∃ k y, seqIndex? n xs.length = some k ∧ xs[k]? = some y := by
  have hb := M.asrt_nb h
  refine ⟨hb, ?_⟩
  rw [M.asrt_pos hb] at h
  cases q : seqIndex? n xs.length with
  | none => rw [q] at h; exact absurd rfl h
  | some k =>
    rw [q] at h
    cases q2 : xs[k]? with
    | none => simp only [q2] at h; exact absurd rfl h
    | some y => exact ⟨k, y, rfl, q2⟩
theorem z_popAt {pin : Option V} {i j : Nat} {xs : List α} {c0 : Cell} {k : Ks} (hij : i ≠ j) (hi : Γ[i]? = some (.own (dList (d := d)) (oList (d := d)) pin xs)) (hj : Γ[j]? = some c0)
    (h : R Y ta Γ dInt fun n => ∃ m y, (-(2 ^ 63) ≤ n ∧ n < 2 ^ 63 ∧ seqIndex? n xs.length = some m ∧ xs[m]? = some y) ∧ k.nx ((Γ.set i (.own (dList (d := d)) (oList (d := d)) pin (xs.eraseIdx m))).set j (.val d y))) :
    Z Y (tAsg (tBM Y.K "list" rPopAt (tVar i) (tCons ta tNil)) (gName j)) Γ k := fun e F σ H D hM s c => by
  obtain ⟨v0, _, _, e1, ⟨a0, vs0, rfl, rfl, _⟩, kw0, _⟩ := s.mut hi
  have ha0 : H a0 = some (.lst vs0) := (kw0.ow (a0, .lst vs0) (by simp)).2.1
  refine ⟨.ref a0, e1, .inl ⟨rfl, vs0, .inl (.inl ha0)⟩, h e F σ H s _ fun v F1 H1 n ⟨m, y, ⟨h0, h63, hm, hy⟩, kn⟩ g r => ?_⟩
  cases (show v = .int n from r)
  obtain ⟨w1, L1, rest1, e3, ⟨b1, us1, rfl, rfl, r1⟩, kv1, f1⟩ := (s.grow g).mut hi
  rw [e1] at e3
  cases (Option.some.inj e3)
  have hb1 : H1 a0 = some (.lst us1) := (kv1.ow (a0, .lst us1) (by simp)).2.1
  obtain ⟨wv, hwv, rwv⟩ := r1.get hy
  refine ⟨a0, us1, n, m, wv, rfl, rfl, hb1, h0, h63, by rw [r1.len]; exact hm, hwv, ?_⟩
  have s2 := f1 F1 _ [(a0, .lst (us1.eraseIdx m))] (xs.eraseIdx m) (Same.refl F1) (kv1.put (fun _ z => by cases z)) ⟨a0, _, rfl, rfl, r1.erase m⟩
  have hj2 : (Γ.set i (.own (dList (d := d)) (oList (d := d)) pin (xs.eraseIdx m)))[j]? = some c0 := by rw [List.getElem?_set_ne hij]; exact hj
  exact c.nx F1 _ _ _ kn (s2.set (c' := .val d y) (L' := []) hj2 s2.base ⟨rfl, wv, rfl, rwv⟩)
theorem zm_popAt {pin : Option V} {i j : Nat} {xs : List α} {c0 : Cell} {mi : M Int} {m2 : List α × α → M τ} (hi : Γ[i]? = some (.own (dList (d := d)) (oList (d := d)) pin xs)) (hij : (i == j) = false) (hj' : Γ[j]? = some c0) (hj : i ∈ js) (hjj : j ∈ js) (hx : Re tx Y ta Γ dInt mi)
    (h2 : ∀ p, Zm tx Y js rest ((Γ.set i (.own (dList (d := d)) (oList (d := d)) pin p.1)).set j (.val d p.2)) K (m2 p)) : Zm tx Y js (tSeq (tAsg (tBM Y.K "list" rPopAt (tVar i) (tCons ta tNil)) (gName j)) rest) Γ K (M.popAt xs mi >>= m2) := fun nb xk =>
  z_seq (z_popAt (by simpa using hij) hi hj' (hx.k (M.nb1 nb) xk.l.here fun n e nb2 _ => by
    obtain ⟨hb, k, y, h1, h3⟩ := M.popAt_nb nb2
    refine ⟨k, y, ⟨hb.1, hb.2, h1, h3⟩, (h2 (xs.eraseIdx k, y)).go nb xk ?_ ?_⟩
    · unfold M.popAt
      rw [e]
      show M.asrt _ _ = _
      rw [M.asrt_pos hb, h1]
      show (match xs[k]? with | some y => _ | none => _) = _
      rw [h3]
    · rw [wipeC_set hjj, wipeC_set hj]))
/-- xs.append(ys.pop(i)) -/
def M.appendPop {α : Type} (xs ys : List α) (mi : M Int) : M (List α × List α) := mi >>= fun n => M.asrt (0 ≤ n) (M.popAt ys (.ok n)) >>= fun q => M.push xs (.ok q.2) >>= fun xs' => .ok (xs', q.1)
theorem zm_appendPop {p1 p2 : Option V} {i j : Nat} {xs ys : List α} {mi : M Int} {m2 : List α × List α → M τ} (hij : (i == j) = false) (hi : Γ[i]? = some (.own (dList (d := d)) (oList (d := d)) p1 xs)) (hj : Γ[j]? = some (.own (dList (d := d)) (oList (d := d)) p2 ys)) (hii : i ∈ js) (hjj : j ∈ js) (hx : Re tx Y ta Γ dInt mi)
    (h2 : ∀ p, Zm tx Y js rest ((Γ.set j (.own (dList (d := d)) (oList (d := d)) p2 p.2)).set i (.own (dList (d := d)) (oList (d := d)) p1 p.1)) K (m2 p)) :
    Zm tx Y js (tSeq (tDrop (tBM Y.K "list" rAppend (tVar i) (tCons (tBM Y.K "list" rPopAt (tVar j) (tCons ta tNil)) tNil))) rest) Γ K (M.appendPop xs ys mi >>= m2) := fun nb xk =>
  z_seq (z_appendPop (by simpa using hij) hi hj (hx.k (M.nb1 nb) xk.l.here fun n e nb2 _ => by
    have nb3 : (M.asrt (0 ≤ n) (M.popAt ys (.ok n))).nb := M.nb1 nb2
    have h0 := M.asrt_nb nb3
    rw [M.asrt_pos h0] at nb3
    obtain ⟨hb, k, y, h1, h3⟩ := M.popAt_nb nb3
    have ep : M.popAt ys (.ok n) = .ok (ys.eraseIdx k, y) := by
      show M.asrt _ _ = _
      rw [M.asrt_pos hb, h1]
      show (match ys[k]? with | some y => _ | none => _) = _
      rw [h3]
    have nb4 : (M.push xs (.ok y)).nb := by
      have := M.nb2 nb2 (x := (ys.eraseIdx k, y)) (by rw [M.asrt_pos h0]; exact ep)
      exact M.nb1 this
    have hl := M.asrt_nb nb4
    refine ⟨k, y, ⟨h0, hb.2, h1, h3⟩, hl, (h2 (xs ++ [y], ys.eraseIdx k)).go nb xk ?_ ?_⟩
    · rw [e]
      show (M.asrt (0 ≤ n) (M.popAt ys (.ok n)) >>= _) = _
      rw [M.asrt_pos h0, ep]
      show (M.push xs (.ok y) >>= _) = _
      rw [M.push_ok hl]; rfl
    · rw [wipeC_set hii, wipeC_set hjj]))
abbrev rInsert : V → List V → Hp → VK → Prop := fun x vs H Q => ∃ (l : Addr) (xs : List V) (i : Int) (y : V), x = .ref l ∧ vs = [.int i, y] ∧ H l = some (.lst xs) ∧ xs.length < PySem.sizeLine ∧ 0 ≤ i ∧ i < 2 ^ 63 ∧
    Q .non (upd H l (.lst (xs.take i.toNat ++ [y] ++ xs.drop i.toNat)))
def M.insert {α : Type} (xs : List α) (mi : M Int) (m : M α) : M (List α) := mi >>= fun n => m >>= fun y => M.asrt (xs.length < PySem.sizeLine ∧ 0 ≤ n ∧ n < 2 ^ 63) (.ok (xs.take n.toNat ++ [y] ++ xs.drop n.toNat))
theorem z_insert {pin : Option V} {i : Nat} {xs : List α} {k : Ks} (hi : Γ[i]? = some (.own (dList (d := d)) (oList (d := d)) pin xs))
    (h : R Y ta Γ dInt fun n => W Y te Γ d fun y => (xs.length < PySem.sizeLine ∧ 0 ≤ n ∧ n < 2 ^ 63) ∧ k.nx (Γ.set i (.own (dList (d := d)) (oList (d := d)) pin (xs.take n.toNat ++ [y] ++ xs.drop n.toNat)))) :
    Z Y (tDrop (tBM Y.K "list" rInsert (tVar i) (tCons ta (tCons te tNil)))) Γ k := fun e F σ H D hM s c => by
  obtain ⟨v0, _, _, e1, ⟨a0, vs0, rfl, rfl, _⟩, kw0, _⟩ := s.mut hi
  have ha0 : H a0 = some (.lst vs0) := (kw0.ow (a0, .lst vs0) (by simp)).2.1
  refine ⟨.ref a0, e1, .inl ⟨rfl, vs0, .inl (.inl ha0)⟩, h e F σ H s _ fun v F1 H1 n h1 g r => h1 e F1 σ H1 (s.grow g) _ fun w F2 H2 y ⟨⟨hl, h0, h63⟩, kn⟩ g2 rw' => ?_⟩
  cases (show v = .int n from r)
  obtain ⟨w1, L1, rest1, e3, ⟨b1, us1, rfl, rfl, r1⟩, kv1, f1⟩ := ((s.grow g).grow g2).mut hi
  rw [e1] at e3
  cases (Option.some.inj e3)
  have hb1 : H2 a0 = some (.lst us1) := (kv1.ow (a0, .lst us1) (by simp)).2.1
  refine ⟨a0, us1, n, w, rfl, rfl, hb1, by rw [r1.len]; exact hl, h0, h63, ?_⟩
  exact c.nx F2 σ _ _ kn (f1 F2 _ [(a0, .lst (us1.take n.toNat ++ [w] ++ us1.drop n.toNat))] _ (Same.refl F2) (kv1.put (fun _ z => by cases z)) ⟨a0, _, rfl, rfl, ((r1.take _).append (Reps.one rw')).append (r1.drop _)⟩)
theorem zm_insert {pin : Option V} {i : Nat} {xs : List α} {mi : M Int} {m1 : M α} {m2 : List α → M τ} (hi : Γ[i]? = some (.own (dList (d := d)) (oList (d := d)) pin xs)) (hj : i ∈ js) (hx : Re tx Y ta Γ dInt mi) (h : We tx Y te Γ d m1) (h2 : ∀ ys, Zm tx Y js rest (Γ.set i (.own (dList (d := d)) (oList (d := d)) pin ys)) K (m2 ys)) :
    Zm tx Y js (tSeq (tDrop (tBM Y.K "list" rInsert (tVar i) (tCons ta (tCons te tNil)))) rest) Γ K (M.insert xs mi m1 >>= m2) := fun nb xk =>
  z_seq (z_insert hi (hx.k (M.nb1 nb) xk.l.here fun n e nb3 xk3 => h.k nb3 xk3 fun y e2 nb4 _ => by
    have hb := M.asrt_nb nb4
    refine ⟨hb, (h2 _).go nb xk ?_ (wipeC_set hj)⟩
    unfold M.insert
    rw [e]; show (m1 >>= _) = _; rw [e2]; exact M.asrt_pos hb))
/-! a, b = x, y -/
theorem zm_par {i j : Nat} {c1 c2 : Cell} {m1 : M α} {m2 : M β} {m3 : α → β → M τ} (hi : Γ[i]? = some c1) (hj : Γ[j]? = some c2) (hij : (i == j) = false) (hii : i ∈ js) (hjj : j ∈ js) (h1 : We tx Y ta Γ d m1) (h2 : We tx Y tb Γ d2 m2)
    (h3 : ∀ x y, Zm tx Y js rest ((Γ.set i (.val d x)).set j (.val d2 y)) K (m3 x y)) : Zm tx Y js (tSeq (tPar i j (tCons ta (tCons tb tNil))) rest) Γ K (m1 >>= fun x => m2 >>= fun y => m3 x y) := fun nb xk => by
  refine z_seq (fun e F σ H D hM s c => (h1.k nb xk.here (k := fun x => W Y tb Γ d2 fun y => m2 = .ok y ∧ m1 = .ok x) fun x e1 nb2 xk2 => w_mono (h2 (M.nb1 nb2) xk2.l) fun y e2 => ⟨e2, e1⟩) e F σ H s _ fun v F1 H1 x hx g1 r1 => hx e F1 σ H1 (s.grow g1) _ fun w F2 H2 y ⟨e2, e1⟩ g2 r2 => ⟨v, w, rfl, ?_⟩)
  have st := (s.grow g1).grow g2
  have hne : i ≠ j := by simpa using hij
  have s1 := st.set (c' := .val d x) (L' := []) hi st.base ⟨rfl, v, rfl, d.mono g2.ff r1⟩
  have hj2 : (Γ.set i (.val d x))[j]? = some c2 := by rw [List.getElem?_set_ne hne]; exact hj
  have s2 := s1.set (c' := .val d2 y) (L' := []) hj2 s1.base ⟨rfl, w, rfl, r2⟩
  refine c.nx F2 _ H2 _ ?_ s2
  have hz := h3 x y
  subst e1 e2
  exact hz nb (fun y' e' Γ' e3 => xk y' e' Γ' (e3.trans (by rw [wipeC_set hjj, wipeC_set hii])))
end
end G
end

noncomputable section
/-! M6: instances whose later attributes are dicts (filled within __init__), tuples of the top. -/
namespace G
open PySem PySem.Spec PyProof.Rows L2 PySem.W
structure Ob3 (α β γ : Type) where
  a : α
  b : β
  c : γ
  deriving DecidableEq
structure Ob4 (α β γ δ : Type) where
  a : α
  b : β
  c : γ
  d : δ
  deriving DecidableEq
theorem Wk.perm {e : En} {F : Hp} {L L' : LO} {H : Hp} (a : Wk e F L H) (p : L.Perm L') : Wk e F L' H :=
  a.sub (fun x hx => p.mem_iff.mpr hx) ((List.Perm.nodup_iff (p.map _)).mp a.nd)
section
variable {α β γ δ : Type} [d1 : Dat α] [d2 : Dat β] [d3 : Dat γ] [d4 : Dat δ] (C0 : Addr) (f1 f2 f3 f4 : Str)
@[reducible] def dOb3 : Dat (Ob3 α β γ) := ⟨fun C F v x => ∃ p dx v1 v2 v3, v = .ref p ∧ F p = some (.ins C0 dx [(f1, v1), (f2, v2), (f3, v3)]) ∧ d1.rep C F v1 x.a ∧ d2.rep C F v2 x.b ∧ d3.rep C F v3 x.c,
  fun s ⟨p, dx, v1, v2, v3, e, h, r1, r2, r3⟩ => ⟨p, dx, v1, v2, v3, e, s _ _ h, d1.mono s r1, d2.mono s r2, d3.mono s r3⟩⟩
@[reducible] def dOb4 : Dat (Ob4 α β γ δ) := ⟨fun C F v x => ∃ p dx v1 v2 v3 v4, v = .ref p ∧ F p = some (.ins C0 dx [(f1, v1), (f2, v2), (f3, v3), (f4, v4)]) ∧ d1.rep C F v1 x.a ∧ d2.rep C F v2 x.b ∧ d3.rep C F v3 x.c ∧ d4.rep C F v4 x.d,
  fun s ⟨p, dx, v1, v2, v3, v4, e, h, r1, r2, r3, r4⟩ => ⟨p, dx, v1, v2, v3, v4, e, s _ _ h, d1.mono s r1, d2.mono s r2, d3.mono s r3, d4.mono s r4⟩⟩
@[reducible] def oOb3 (od3 : @OD γ d3) : @OD (Ob3 α β γ) (dOb3 C0 f1 f2 f3) := @OD.mk (Ob3 α β γ) (dOb3 C0 f1 f2 f3)
  (fun C F v x L => ∃ p dx v1 v2 v3 L3, v = .ref p ∧ L = (p, .ins C0 dx [(f1, v1), (f2, v2), (f3, v3)]) :: L3 ∧ d1.rep C F v1 x.a ∧ d2.rep C F v2 x.b ∧ od3.orep C F v3 x.c L3)
  (fun s ⟨p, dx, v1, v2, v3, L3, e, h, r1, r2, r3⟩ => ⟨p, dx, v1, v2, v3, L3, e, h, d1.mono s r1, d2.mono s r2, od3.omono s r3⟩)
  (fun ⟨p, dx, v1, v2, v3, L3, e, h, r1, r2, r3⟩ s k => ⟨p, dx, v1, v2, v3, e, k (p, .ins C0 dx [(f1, v1), (f2, v2), (f3, v3)]) (by rw [h]; exact List.mem_cons_self), d1.mono s r1, d2.mono s r2, od3.view r3 s fun q hq => k q (by rw [h]; exact List.mem_cons_of_mem _ hq)⟩)
@[reducible] def oOb4 (od3 : @OD γ d3) (od4 : @OD δ d4) : @OD (Ob4 α β γ δ) (dOb4 C0 f1 f2 f3 f4) := @OD.mk (Ob4 α β γ δ) (dOb4 C0 f1 f2 f3 f4)
  (fun C F v x L => ∃ p dx v1 v2 v3 v4 L3 L4, v = .ref p ∧ L = (p, .ins C0 dx [(f1, v1), (f2, v2), (f3, v3), (f4, v4)]) :: (L3 ++ L4) ∧ d1.rep C F v1 x.a ∧ d2.rep C F v2 x.b ∧ od3.orep C F v3 x.c L3 ∧ od4.orep C F v4 x.d L4)
  (fun s ⟨p, dx, v1, v2, v3, v4, L3, L4, e, h, r1, r2, r3, r4⟩ => ⟨p, dx, v1, v2, v3, v4, L3, L4, e, h, d1.mono s r1, d2.mono s r2, od3.omono s r3, od4.omono s r4⟩)
  (fun ⟨p, dx, v1, v2, v3, v4, L3, L4, e, h, r1, r2, r3, r4⟩ s k => ⟨p, dx, v1, v2, v3, v4, e, k (p, .ins C0 dx [(f1, v1), (f2, v2), (f3, v3), (f4, v4)]) (by rw [h]; exact List.mem_cons_self), d1.mono s r1, d2.mono s r2,
    od3.view r3 s fun q hq => k q (by rw [h]; exact List.mem_cons_of_mem _ (List.mem_append_left _ hq)), od4.view r4 s fun q hq => k q (by rw [h]; exact List.mem_cons_of_mem _ (List.mem_append_right _ hq))⟩)
end
section
variable {α β γ δ : Type} [d1 : Dat α] [d2 : Dat β] [d3 : Dat γ] [d4 : Dat δ] {C0 : Addr} {f1 f2 f3 f4 : Str}
theorem isI3 : IsI (dOb3 (α := α) (β := β) (γ := γ) C0 f1 f2 f3) C0 [f1, f2, f3] := ⟨fun ⟨p, dx, v1, v2, v3, e, h, _⟩ => ⟨p, dx, _, e, h, fun f hf => by
  rw [List.lookup_cons, beq_eq_false_iff_ne.mpr (fun z => hf (by rw [z]; simp)), List.lookup_cons, beq_eq_false_iff_ne.mpr (fun z => hf (by rw [z]; simp)), List.lookup_cons, beq_eq_false_iff_ne.mpr (fun z => hf (by rw [z]; simp))]; rfl⟩⟩
theorem isI4 : IsI (dOb4 (α := α) (β := β) (γ := γ) (δ := δ) C0 f1 f2 f3 f4) C0 [f1, f2, f3, f4] := ⟨fun ⟨p, dx, v1, v2, v3, v4, e, h, _⟩ => ⟨p, dx, _, e, h, fun f hf => by
  rw [List.lookup_cons, beq_eq_false_iff_ne.mpr (fun z => hf (by rw [z]; simp)), List.lookup_cons, beq_eq_false_iff_ne.mpr (fun z => hf (by rw [z]; simp)), List.lookup_cons, beq_eq_false_iff_ne.mpr (fun z => hf (by rw [z]; simp)), List.lookup_cons, beq_eq_false_iff_ne.mpr (fun z => hf (by rw [z]; simp))]; rfl⟩⟩
theorem isF3a : IsF (dOb3 (α := α) (β := β) (γ := γ) C0 f1 f2 f3) C0 f1 d1 Ob3.a := ⟨fun ⟨p, dx, v1, v2, v3, e, h, r1, r2, r3⟩ => ⟨p, dx, _, v1, e, h, by rw [List.lookup_cons, beq_self_eq_true], r1⟩⟩
theorem isF3b (hn : (f2 == f1) = false) : IsF (dOb3 (α := α) (β := β) (γ := γ) C0 f1 f2 f3) C0 f2 d2 Ob3.b := ⟨fun ⟨p, dx, v1, v2, v3, e, h, r1, r2, r3⟩ => ⟨p, dx, _, v2, e, h, by rw [List.lookup_cons, hn, List.lookup_cons, beq_self_eq_true], r2⟩⟩
theorem isF4a : IsF (dOb4 (α := α) (β := β) (γ := γ) (δ := δ) C0 f1 f2 f3 f4) C0 f1 d1 Ob4.a := ⟨fun ⟨p, dx, v1, v2, v3, v4, e, h, r1, r2, r3, r4⟩ => ⟨p, dx, _, v1, e, h, by rw [List.lookup_cons, beq_self_eq_true], r1⟩⟩
theorem isF4b (hn : (f2 == f1) = false) : IsF (dOb4 (α := α) (β := β) (γ := γ) (δ := δ) C0 f1 f2 f3 f4) C0 f2 d2 Ob4.b := ⟨fun ⟨p, dx, v1, v2, v3, v4, e, h, r1, r2, r3, r4⟩ => ⟨p, dx, _, v2, e, h, by rw [List.lookup_cons, hn, List.lookup_cons, beq_self_eq_true], r2⟩⟩
theorem isF4c (h1 : (f3 == f1) = false) (h2 : (f3 == f2) = false) : IsF (dOb4 (α := α) (β := β) (γ := γ) (δ := δ) C0 f1 f2 f3 f4) C0 f3 d3 Ob4.c := ⟨fun ⟨p, dx, v1, v2, v3, v4, e, h, r1, r2, r3, r4⟩ => ⟨p, dx, _, v3, e, h, by rw [List.lookup_cons, h1, List.lookup_cons, h2, List.lookup_cons, beq_self_eq_true], r3⟩⟩
theorem isF4d (h1 : (f4 == f1) = false) (h2 : (f4 == f2) = false) (h3 : (f4 == f3) = false) : IsF (dOb4 (α := α) (β := β) (γ := γ) (δ := δ) C0 f1 f2 f3 f4) C0 f4 d4 Ob4.d := ⟨fun ⟨p, dx, v1, v2, v3, v4, e, h, r1, r2, r3, r4⟩ => ⟨p, dx, _, v4, e, h, by rw [List.lookup_cons, h1, List.lookup_cons, h2, List.lookup_cons, h3, List.lookup_cons, beq_self_eq_true], r4⟩⟩
end
theorem set_same {σ : L2.St} {i : Nat} {v : V} (e1 : σ[i]? = some (some v)) : σ.set i (some v) = σ := by
  apply List.ext_getElem?
  intro j
  by_cases hj : i = j
  · subst hj
    obtain ⟨hlt, hv⟩ := List.getElem?_eq_some_iff.mp e1
    rw [List.getElem?_set_self hlt, e1]
  · rw [List.getElem?_set_ne hj]
theorem perm_a {A B C D : LO} {x : Addr × HO} : (x :: (A ++ B ++ (C ++ D))).Perm (B ++ (x :: (C ++ A)) ++ D) := by
  have e1 : (x :: (A ++ B ++ (C ++ D))).Perm (x :: (B ++ (C ++ A) ++ D)) := by
    refine List.Perm.cons _ ?_
    have q : (A ++ (B ++ C)).Perm ((B ++ C) ++ A) := List.perm_append_comm
    have := q.append_right D
    simpa [List.append_assoc] using this
  refine e1.trans ?_
  have : (x :: (B ++ ((C ++ A) ++ D))).Perm (B ++ x :: ((C ++ A) ++ D)) := List.perm_middle.symm
  simpa [List.append_assoc] using this
section
variable {Y : YC} {Γ : List Cell} {k : Ks} {te tk tv : TE} {α β γ δ ε : Type} {d1 : Dat α} {d2 : Dat β} {d3 : Dat γ} {d4 : Dat δ} {dv : Dat ε} {C0 : Addr} {f f1 f2 f3 : Str}
theorem z_fldO3 {od : @OD γ d3} {i : Nat} {pin : Option V} {x : Ob2 α β} (hi : Γ[i]? = some (.own (dOb2 C0 f1 f2) (oOb2 C0 f1 f2) pin x)) (h1 : (f1 == f) = false) (h2 : (f2 == f) = false) (c : Cls Y.K C0) (n : NoAttr Y.K C0 f)
    (h : O Y te Γ od fun y => k.nx (Γ.set i (.own (dOb3 C0 f1 f2 f) (oOb3 C0 f1 f2 f od) pin ⟨x.a, x.b, y⟩))) : Z Y (sFld Y.K (tVar i) te f) Γ k := fun e F σ H D hM s ct => h e F σ H s _ fun w F' H' L' y ky g rw' => by
  obtain ⟨hx, L, k0, sl0⟩ := id s
  obtain ⟨o0, P1, Pi, P2, e1, f2', ⟨u0, rfl, hp0, p, dx, v1, v2, rfl, rfl, r1, r2⟩, f4⟩ := sl0.get hi
  subst f2'
  have kk := k0.trans g
  have hH : H' p = some (.ins C0 dx [(f1, v1), (f2, v2)]) := (kk.ow (p, .ins C0 dx [(f1, v1), (f2, v2)]) (by simp)).2.1
  have hp2 : putF f w [(f1, v1), (f2, v2)] = [(f1, v1), (f2, v2), (f, w)] := by
    unfold putF; rw [if_neg (beq_eq_false_iff_ne.mp h1)]
    unfold putF; rw [if_neg (beq_eq_false_iff_ne.mp h2)]; rfl
  refine ⟨.ref p, e1, p, C0, dx, [(f1, v1), (f2, v2)], rfl, hH, c, n, by show 2 < 1000; omega, ?_⟩
  rw [hp2]
  have q6 := f4 F' (some (.ref p)) (.own (dOb3 C0 f1 f2 f) (oOb3 C0 f1 f2 f od) pin ⟨x.a, x.b, y⟩) ((p, .ins C0 dx [(f1, v1), (f2, v2), (f, w)]) :: ([] ++ L')) g.ff ⟨.ref p, rfl, hp0, p, dx, v1, v2, w, L', rfl, rfl, d1.mono g.ff r1, d2.mono g.ff r2, rw'⟩
  rw [set_same e1] at q6
  refine ct.nx F' σ _ _ ky ⟨hx, _, ?_, q6⟩
  have k2 : Wk e F' ((L' ++ P1) ++ [(p, .ins C0 dx [(f1, v1), (f2, v2)])] ++ P2) H' := by simpa [List.append_assoc] using kk
  have k3 := k2.front.put (o' := .ins C0 dx [(f1, v1), (f2, v2), (f, w)]) (fun _ z => by cases z)
  exact k3.perm (perm_a (C := []))
theorem z_fldO4 {od3 : @OD γ d3} {od : @OD δ d4} {i : Nat} {pin : Option V} {x : Ob3 α β γ} (hi : Γ[i]? = some (.own (dOb3 C0 f1 f2 f3) (oOb3 C0 f1 f2 f3 od3) pin x)) (h1 : (f1 == f) = false) (h2 : (f2 == f) = false) (h3 : (f3 == f) = false) (c : Cls Y.K C0) (n : NoAttr Y.K C0 f)
    (h : O Y te Γ od fun y => k.nx (Γ.set i (.own (dOb4 C0 f1 f2 f3 f) (oOb4 C0 f1 f2 f3 f od3 od) pin ⟨x.a, x.b, x.c, y⟩))) : Z Y (sFld Y.K (tVar i) te f) Γ k := fun e F σ H D hM s ct => h e F σ H s _ fun w F' H' L' y ky g rw' => by
  obtain ⟨hx, L, k0, sl0⟩ := id s
  obtain ⟨o0, P1, Pi, P2, e1, f2', ⟨u0, rfl, hp0, p, dx, v1, v2, v3, L3, rfl, rfl, r1, r2, r3⟩, f4⟩ := sl0.get hi
  subst f2'
  have kk := k0.trans g
  have hH : H' p = some (.ins C0 dx [(f1, v1), (f2, v2), (f3, v3)]) := (kk.ow (p, .ins C0 dx [(f1, v1), (f2, v2), (f3, v3)]) (by simp)).2.1
  have hp2 : putF f w [(f1, v1), (f2, v2), (f3, v3)] = [(f1, v1), (f2, v2), (f3, v3), (f, w)] := by
    unfold putF; rw [if_neg (beq_eq_false_iff_ne.mp h1)]
    unfold putF; rw [if_neg (beq_eq_false_iff_ne.mp h2)]
    unfold putF; rw [if_neg (beq_eq_false_iff_ne.mp h3)]; rfl
  refine ⟨.ref p, e1, p, C0, dx, [(f1, v1), (f2, v2), (f3, v3)], rfl, hH, c, n, by show 3 < 1000; omega, ?_⟩
  rw [hp2]
  have q6 := f4 F' (some (.ref p)) (.own (dOb4 C0 f1 f2 f3 f) (oOb4 C0 f1 f2 f3 f od3 od) pin ⟨x.a, x.b, x.c, y⟩) ((p, .ins C0 dx [(f1, v1), (f2, v2), (f3, v3), (f, w)]) :: (L3 ++ L')) g.ff ⟨.ref p, rfl, hp0, p, dx, v1, v2, v3, w, L3, L', rfl, rfl, d1.mono g.ff r1, d2.mono g.ff r2, od3.omono g.ff r3, rw'⟩
  rw [set_same e1] at q6
  refine ct.nx F' σ _ _ ky ⟨hx, _, ?_, q6⟩
  have k2 : Wk e F' ((L' ++ P1) ++ [(p, .ins C0 dx [(f1, v1), (f2, v2), (f3, v3)])] ++ (L3 ++ P2)) H' := by simpa [List.append_assoc] using kk
  have k3 := k2.front.put (o' := .ins C0 dx [(f1, v1), (f2, v2), (f3, v3), (f, w)]) (fun _ z => by cases z)
  exact k3.perm perm_a
/-- self.f3[k] = v -/
theorem z_fput3 {i : Nat} {pin : Option V} {x : Ob3 α β (DI ε)} (hi : Γ[i]? = some (.own (dOb3 C0 f1 f2 f) (oOb3 C0 f1 f2 f (oDI (d := dv))) pin x)) (h1 : (f == f1) = false) (h2 : (f == f2) = false) (c : Cls Y.K C0) (n : NoAttr Y.K C0 f)
    (h : W Y tv Γ dv fun y => R Y tk Γ dInt fun m => x.c.kv.length < PySem.sizeLine ∧ k.nx (Γ.set i (.own (dOb3 C0 f1 f2 f) (oOb3 C0 f1 f2 f (oDI (d := dv))) pin ⟨x.a, x.b, ⟨putI x.c.kv m y⟩⟩))) :
    Z Y (sDPut (tFld Y.K (tVar i) f) tk tv) Γ k := fun e F σ H D hM s ct => h e F σ H s _ fun w F1 H1 y hy g1 r1 => by
  obtain ⟨v0, Li0, rest0, e1, ⟨p, dx, v1, v2, v3, L3, rfl, rfl, ra, rb, a, ps, rfl, rfl, r⟩, kw, _⟩ := (s.grow g1).mut hi
  have hH : H1 p = some (.ins C0 dx [(f1, v1), (f2, v2), (f, .ref a)]) := (kw.ow (p, .ins C0 dx [(f1, v1), (f2, v2), (f, .ref a)]) (by simp)).2.1
  refine ⟨.ref p, e1, p, C0, dx, _, .ref a, rfl, hH, c, n, by rw [List.lookup_cons, h1, List.lookup_cons, h2, List.lookup_cons, beq_self_eq_true], ?_⟩
  refine hy e F1 σ H1 (s.grow g1) _ fun vk F2 H2 m ⟨hl, kn⟩ g2 r2 => ?_
  cases (show vk = .int m from r2)
  obtain ⟨v0', Li', rest, e1', ⟨p', dx', w1, w2, w3, L3', rfl, rfl, ra', rb', a', ps', rfl, rfl, r'⟩, kw2, f9⟩ := ((s.grow g1).grow g2).mut hi
  rw [e1] at e1'
  cases (Option.some.inj e1')
  have hH2 : H2 p = some (.ins C0 dx' [(f1, w1), (f2, w2), (f, .ref a')]) := (kw2.ow (p, .ins C0 dx' [(f1, w1), (f2, w2), (f, .ref a')]) (by simp)).2.1
  rw [g2.hh0 _ _ hH] at hH2
  cases (Option.some.inj hH2)
  have ha : H2 a = some (.dK ps') := (kw2.ow (a, .dK ps') (by simp)).2.1
  refine ⟨a, _, rfl, DPut.k (k := Sum.inl m) ha (by rw [r'.len]; exact hl), ?_⟩
  refine ct.nx F2 σ _ _ kn (f9 F2 _ [(p, .ins C0 dx [(f1, v1), (f2, v2), (f, .ref a)]), (a, .dK (putK ps' (Sum.inl m) w))] ⟨x.a, x.b, ⟨putI x.c.kv m y⟩⟩ (Same.refl F2) ?_ ⟨p, dx, v1, v2, .ref a, _, rfl, rfl, ra', rb', a, _, rfl, rfl, r'.put (dv.mono g2.ff r1)⟩)
  have k2 : Wk e F2 ([(p, .ins C0 dx [(f1, v1), (f2, v2), (f, .ref a)])] ++ [(a, .dK ps')] ++ rest) H2 := by simpa [List.append_assoc] using kw2
  have k3 := (k2.front.put (o' := .dK (putK ps' (Sum.inl m) w)) (fun _ z => by cases z))
  have k4 : Wk e F2 ([(p, .ins C0 dx [(f1, v1), (f2, v2), (f, .ref a)])] ++ [(a, .dK (putK ps' (Sum.inl m) w))] ++ rest) _ := Wk.back (Li := [(a, .dK (putK ps' (Sum.inl m) w))]) k3
  simpa [List.append_assoc] using k4
theorem z_fput4 {od3 : @OD γ d3} {i : Nat} {pin : Option V} {x : Ob4 α β γ (DI ε)} (hi : Γ[i]? = some (.own (dOb4 C0 f1 f2 f3 f) (oOb4 C0 f1 f2 f3 f od3 (oDI (d := dv))) pin x)) (h1 : (f == f1) = false) (h2 : (f == f2) = false) (h3 : (f == f3) = false) (c : Cls Y.K C0) (n : NoAttr Y.K C0 f)
    (h : W Y tv Γ dv fun y => R Y tk Γ dInt fun m => x.d.kv.length < PySem.sizeLine ∧ k.nx (Γ.set i (.own (dOb4 C0 f1 f2 f3 f) (oOb4 C0 f1 f2 f3 f od3 (oDI (d := dv))) pin ⟨x.a, x.b, x.c, ⟨putI x.d.kv m y⟩⟩))) :
    Z Y (sDPut (tFld Y.K (tVar i) f) tk tv) Γ k := fun e F σ H D hM s ct => h e F σ H s _ fun w F1 H1 y hy g1 r1 => by
  obtain ⟨v0, Li0, rest0, e1, ⟨p, dx, v1, v2, v3, v4, L3, L4, rfl, rfl, ra, rb, rc, a, ps, rfl, rfl, r⟩, kw, _⟩ := (s.grow g1).mut hi
  have hH : H1 p = some (.ins C0 dx [(f1, v1), (f2, v2), (f3, v3), (f, .ref a)]) := (kw.ow (p, .ins C0 dx [(f1, v1), (f2, v2), (f3, v3), (f, .ref a)]) (by simp)).2.1
  refine ⟨.ref p, e1, p, C0, dx, _, .ref a, rfl, hH, c, n, by rw [List.lookup_cons, h1, List.lookup_cons, h2, List.lookup_cons, h3, List.lookup_cons, beq_self_eq_true], ?_⟩
  refine hy e F1 σ H1 (s.grow g1) _ fun vk F2 H2 m ⟨hl, kn⟩ g2 r2 => ?_
  cases (show vk = .int m from r2)
  obtain ⟨v0', Li', rest, e1', ⟨p', dx', w1, w2, w3, w4, L3', L4', rfl, rfl, ra', rb', rc', a', ps', rfl, rfl, r'⟩, kw2, f9⟩ := ((s.grow g1).grow g2).mut hi
  rw [e1] at e1'
  cases (Option.some.inj e1')
  have hH2 : H2 p = some (.ins C0 dx' [(f1, w1), (f2, w2), (f3, w3), (f, .ref a')]) := (kw2.ow (p, .ins C0 dx' [(f1, w1), (f2, w2), (f3, w3), (f, .ref a')]) (by simp)).2.1
  rw [g2.hh0 _ _ hH] at hH2
  cases (Option.some.inj hH2)
  have ha : H2 a = some (.dK ps') := (kw2.ow (a, .dK ps') (by simp)).2.1
  refine ⟨a, _, rfl, DPut.k (k := Sum.inl m) ha (by rw [r'.len]; exact hl), ?_⟩
  refine ct.nx F2 σ _ _ kn (f9 F2 _ ((p, .ins C0 dx [(f1, v1), (f2, v2), (f3, v3), (f, .ref a)]) :: (L3' ++ [(a, .dK (putK ps' (Sum.inl m) w))])) ⟨x.a, x.b, x.c, ⟨putI x.d.kv m y⟩⟩ (Same.refl F2) ?_ ⟨p, dx, v1, v2, v3, .ref a, _, _, rfl, rfl, ra', rb', rc', a, _, rfl, rfl, r'.put (dv.mono g2.ff r1)⟩)
  have k2 : Wk e F2 (((p, .ins C0 dx [(f1, v1), (f2, v2), (f3, v3), (f, .ref a)]) :: L3') ++ [(a, .dK ps')] ++ rest) H2 := by simpa [List.append_assoc] using kw2
  have k3 := (k2.front.put (o' := .dK (putK ps' (Sum.inl m) w)) (fun _ z => by cases z))
  have k4 : Wk e F2 (((p, .ins C0 dx [(f1, v1), (f2, v2), (f3, v3), (f, .ref a)]) :: L3') ++ [(a, .dK (putK ps' (Sum.inl m) w))] ++ rest) _ := Wk.back (Li := [(a, .dK (putK ps' (Sum.inl m) w))]) k3
  simpa [List.append_assoc] using k4
end
section
variable {tx : XC → Addr} {Y : YC} {Γ : List Cell} {te tk tv : TE} {α β γ δ ε τ : Type} {d1 : Dat α} {d2 : Dat β} {d3 : Dat γ} {d4 : Dat δ} {dv : Dat ε} {rest : TS} {js : List Nat} {K : Kt τ} {C0 : Addr} {f f1 f2 f3 : Str}
theorem zm_fldO3 {od : @OD γ d3} {i : Nat} {pin : Option V} {x : Ob2 α β} {m1 : M γ} {m2 : γ → M τ} (hi : Γ[i]? = some (.own (dOb2 C0 f1 f2) (oOb2 C0 f1 f2) pin x)) (hj : i ∈ js) (h1 : (f1 == f) = false) (h2 : (f2 == f) = false) (c : Cls Y.K C0) (n : NoAttr Y.K C0 f) (h : Oe tx Y te Γ od m1)
    (h3 : ∀ y, Zm tx Y js rest (Γ.set i (.own (dOb3 C0 f1 f2 f) (oOb3 C0 f1 f2 f od) pin ⟨x.a, x.b, y⟩)) K (m2 y)) : Zm tx Y js (tSeq (sFld Y.K (tVar i) te f) rest) Γ K (m1 >>= m2) := fun nb xk => z_seq (z_fldO3 hi h1 h2 c n (o_mono (h (M.nb1 nb) xk.l.here) fun y e => (h3 y).go nb xk e (wipeC_set hj)))
theorem zm_fldO4 {od3 : @OD γ d3} {od : @OD δ d4} {i : Nat} {pin : Option V} {x : Ob3 α β γ} {m1 : M δ} {m2 : δ → M τ} (hi : Γ[i]? = some (.own (dOb3 C0 f1 f2 f3) (oOb3 C0 f1 f2 f3 od3) pin x)) (hj : i ∈ js) (h1 : (f1 == f) = false) (h2 : (f2 == f) = false) (h3 : (f3 == f) = false) (c : Cls Y.K C0) (n : NoAttr Y.K C0 f) (h : Oe tx Y te Γ od m1)
    (h4 : ∀ y, Zm tx Y js rest (Γ.set i (.own (dOb4 C0 f1 f2 f3 f) (oOb4 C0 f1 f2 f3 f od3 od) pin ⟨x.a, x.b, x.c, y⟩)) K (m2 y)) : Zm tx Y js (tSeq (sFld Y.K (tVar i) te f) rest) Γ K (m1 >>= m2) := fun nb xk => z_seq (z_fldO4 hi h1 h2 h3 c n (o_mono (h (M.nb1 nb) xk.l.here) fun y e => (h4 y).go nb xk e (wipeC_set hj)))
theorem zm_fput3 {i : Nat} {pin : Option V} {x : Ob3 α β (DI ε)} {mk : M Int} {mv : M ε} {m2 : DI ε → M τ} (hi : Γ[i]? = some (.own (dOb3 C0 f1 f2 f) (oOb3 C0 f1 f2 f (oDI (d := dv))) pin x)) (hj : i ∈ js) (h1 : (f == f1) = false) (h2 : (f == f2) = false) (c : Cls Y.K C0) (n : NoAttr Y.K C0 f)
    (hv : We tx Y tv Γ dv mv) (hk : Re tx Y tk Γ dInt mk) (h3 : ∀ y, Zm tx Y js rest (Γ.set i (.own (dOb3 C0 f1 f2 f) (oOb3 C0 f1 f2 f (oDI (d := dv))) pin ⟨x.a, x.b, y⟩)) K (m2 y)) : Zm tx Y js (tSeq (sDPut (tFld Y.K (tVar i) f) tk tv) rest) Γ K (M.dput x.c mk mv >>= m2) := fun nb xk =>
  z_seq (z_fput3 hi h1 h2 c n (hv.k (M.nb1 nb) xk.l.here fun y e nb3 xk3 => hk.k nb3 xk3 fun n e2 nb4 _ => ⟨M.asrt_nb nb4, (h3 ⟨putI x.c.kv n y⟩).go nb xk (by unfold M.dput; rw [e]; show (mk >>= _) = _; rw [e2]; exact M.asrt_pos (M.asrt_nb nb4)) (wipeC_set hj)⟩))
theorem zm_fput4 {od3 : @OD γ d3} {i : Nat} {pin : Option V} {x : Ob4 α β γ (DI ε)} {mk : M Int} {mv : M ε} {m2 : DI ε → M τ} (hi : Γ[i]? = some (.own (dOb4 C0 f1 f2 f3 f) (oOb4 C0 f1 f2 f3 f od3 (oDI (d := dv))) pin x)) (hj : i ∈ js) (h1 : (f == f1) = false) (h2 : (f == f2) = false) (h3 : (f == f3) = false) (c : Cls Y.K C0) (n : NoAttr Y.K C0 f)
    (hv : We tx Y tv Γ dv mv) (hk : Re tx Y tk Γ dInt mk) (h4 : ∀ y, Zm tx Y js rest (Γ.set i (.own (dOb4 C0 f1 f2 f3 f) (oOb4 C0 f1 f2 f3 f od3 (oDI (d := dv))) pin ⟨x.a, x.b, x.c, y⟩)) K (m2 y)) : Zm tx Y js (tSeq (sDPut (tFld Y.K (tVar i) f) tk tv) rest) Γ K (M.dput x.d mk mv >>= m2) := fun nb xk =>
  z_seq (z_fput4 hi h1 h2 h3 c n (hv.k (M.nb1 nb) xk.l.here fun y e nb3 xk3 => hk.k nb3 xk3 fun n e2 nb4 _ => ⟨M.asrt_nb nb4, (h4 ⟨putI x.d.kv n y⟩).go nb xk (by unfold M.dput; rw [e]; show (mk >>= _) = _; rw [e2]; exact M.asrt_pos (M.asrt_nb nb4)) (wipeC_set hj)⟩))
end
/-! the class Wiring -/
abbrev WiringM := Ob4 (Tup (Int × Int)) (Tup (T3 Str Int Int)) (DI Int) (DI Int)
section
variable (A : CA3)
@[reducible] def dLinks : Dat (Tup (Int × Int)) := dTup (d := dPair (d1 := dInt) (d2 := dInt))
@[reducible] def dNodes : Dat (Tup (T3 Str Int Int)) := dTup (d := dT3 (d1 := dStr) (d2 := dInt) (d3 := dInt))
@[reducible] def dWiring : Dat WiringM := dOb4 (d1 := dTup (d := dPair (d1 := dInt) (d2 := dInt))) (d2 := dTup (d := dT3 (d1 := dStr) (d2 := dInt) (d3 := dInt))) (d3 := dDI (d := dInt)) (d4 := dDI (d := dInt)) (A.ob .Wiring) "links" "nodes" "_parents" "_owners"
@[reducible] def oWiring : @OD WiringM (dWiring A) := oOb4 (d1 := dTup (d := dPair (d1 := dInt) (d2 := dInt))) (d2 := dTup (d := dT3 (d1 := dStr) (d2 := dInt) (d3 := dInt))) (d3 := dDI (d := dInt)) (d4 := dDI (d := dInt)) (A.ob .Wiring) "links" "nodes" "_parents" "_owners" (oDI (d := dInt)) (oDI (d := dInt))
theorem isI_Wiring : IsI (dWiring A) (A.ob .Wiring) ["links", "nodes", "_parents", "_owners"] := isI4
theorem isF_Wiring_links : IsF (dWiring A) (A.ob .Wiring) "links" (dTup (d := dPair (d1 := dInt) (d2 := dInt))) Ob4.a := isF4a
theorem isF_Wiring_nodes : IsF (dWiring A) (A.ob .Wiring) "nodes" (dTup (d := dT3 (d1 := dStr) (d2 := dInt) (d3 := dInt))) Ob4.b := isF4b (by decide)
theorem isF_Wiring__parents : IsF (dWiring A) (A.ob .Wiring) "_parents" (dDI (d := dInt)) Ob4.c := isF4c (by decide) (by decide)
theorem isF_Wiring__owners : IsF (dWiring A) (A.ob .Wiring) "_owners" (dDI (d := dInt)) Ob4.d := isF4d (by decide) (by decide) (by decide)
end
/-! tuples of the top -/
def KTup (K : PySem.W.Frag) (a : Addr) (vs : List V) : Prop := SqT K (fun _ => none) a vs
theorem ktup_mk {K : PySem.W.Frag} {a : Addr} {o : Obj} {its : Array Value} {n : Nat} {vs : List V} (h : K.lookup a = some o) (h1 : o.cls = .type "tuple") (h2 : o.data = .seq its n) (h3 : its.size ≤ sizeLine) (h4 : Vals vs its.toList) : KTup K a vs := .inr ⟨o, its, n, h, h1, h2, h3, h4⟩
theorem we_ktup {tx : XC → Addr} {Y : YC} {Γ : List Cell} {α : Type} {d : Dat α} {a : Addr} {vs : List V} {xs : List α} (h : KTup Y.K a vs) (r : ∀ F, Reps d Y.g F vs xs) : We tx Y (tC (.ref a)) Γ (dTup (d := d)) (.ok ⟨xs⟩) := fun nb xk e F σ H s Q q => q _ F H _ rfl s.base ⟨a, vs, rfl, .inr h, r F⟩
section
variable {tx : XC → Addr} {Y : YC} {Γ : List Cell} {te ta tb : TE} {α β : Type} {d : Dat α}
theorem w_t4L {k : Tup α → Prop} (h : W Y te Γ (dT4 (d1 := d) (d2 := d) (d3 := d) (d4 := d)) fun x => k ⟨[x.a, x.b, x.c, x.d]⟩) : W Y te Γ (dTup (d := d)) k := fun e F σ H s Q q => h e F σ H s Q fun v F' H' x kx g ⟨a, v1, v2, v3, v4, e1, ht, r1, r2, r3, r4⟩ => q v F' H' _ kx g ⟨a, _, e1, ht, r1, r2, r3, r4, trivial⟩
theorem we_t4L {m : M (T4 α α α α)} (h : We tx Y te Γ (dT4 (d1 := d) (d2 := d) (d3 := d) (d4 := d)) m) : We tx Y te Γ (dTup (d := d)) (m >>= fun x => .ok ⟨[x.a, x.b, x.c, x.d]⟩) := we_p1w (f := fun x : T4 α α α α => (⟨[x.a, x.b, x.c, x.d]⟩ : Tup α)) (fun k h => w_t4L h) h
/-- the class's type may be asked -/
structure InsT (K : PySem.W.Frag) (C : Addr) : Prop where
  cl : Cls K C
  ha : PySem.W.findIn K (.ref C) "__class__" = some (some (.builtin "object.__class__"))
  hn : PySem.W.specialIn K (.builtin "object.__class__") "__get__" = some (some (.builtin "getset_descriptor.__get__"))
  htk : PySem.W.takesIn K (.builtin "object.__class__") = some true
  hm : PySem.W.mroIn K C (.type "object") = some true
/-- isinstance(x, C), x an instance of C -/
theorem w_isO {C0 : Addr} {ns : List Str} {kx : Bool → Prop} (hf : IsI d C0 ns) (I : InsT Y.K C0) (h : R Y ta Γ d fun _ => kx true) : W Y (tCB (rIsi Y.K) (tCons ta (tCons (tC (.ref C0)) tNil))) Γ dBool kx := fun e F σ H s Q q => h e F σ H s _ fun v F' H' x kx g r => by
  obtain ⟨p, dx, fs, e1, e2, _⟩ := hf.ins r
  subst e1
  exact ⟨.ref p, .ref C0, .ref C0, .ref C0, true, rfl, .own C0, .base (.ins e2 I.cl I.ha I.hn I.htk I.hm), by unfold kitOne; simp, q _ F' H' true kx g rfl⟩
theorem we_isO {C0 : Addr} {ns : List Str} {m : M α} (hf : IsI d C0 ns) (I : InsT Y.K C0) (h : Re tx Y ta Γ d m) : We tx Y (tCB (rIsi Y.K) (tCons ta (tCons (tC (.ref C0)) tNil))) Γ dBool (m >>= fun _ => .ok true) := we_p1 (f := fun _ : α => true) (fun k h => w_isO hf I h) h
theorem any_eqv [de : @DE α d] [DecidableEq α] (x : α) (xs : List α) : ((xs.map de.toD).any fun z => PyData.eqv z (de.toD x)) = memB x xs := by
  rw [List.any_map]
  have : (fun z => PyData.eqv (de.toD z) (de.toD x)) = fun z => decide (z = x) := funext fun z => de_eqv z x
  show List.any xs (fun z => PyData.eqv (de.toD z) (de.toD x)) = _
  rw [this]
  unfold memB
  rw [Bool.eq_iff_iff]
  simp
theorem w_notinD [de : @DE α d] [DecidableEq α] {kb : Bool → Prop} (hd : de.dep ≤ 64) (h : R Y ta Γ d fun x => R Y tb Γ (dList (d := d)) fun xs => kb (!memB x xs)) : W Y (tOp (rInP Y.K true) ta tb) Γ dBool kb := fun e F σ H s Q q => h e F σ H s _ fun v1 F1 H1 x h1 g1 r1 => h1 e F1 σ H1 (s.grow g1) _ fun v2 F2 H2 xs ky g2 ⟨a, vs, e2, h2, r2⟩ => by
  subst e2
  exact ⟨de.toD x, xs.map de.toD, de.dp (d.mono g2.hh0 r1), .inl (.lst h2 (dpAll_of r2)), de_shaped hd x, layAll_of xs, q _ F2 H2 _ ky (g1.trans0 g2) (by show V.bl _ = V.bl _; rw [if_pos rfl]; exact congrArg (fun b => V.bl (!b)) (any_eqv x xs))⟩
theorem we_notinD [de : @DE α d] [DecidableEq α] {m : M α} {n : M (List α)} (hd : de.dep ≤ 64) (h : Re tx Y ta Γ d m) (h2 : Re tx Y tb Γ (dList (d := d)) n) : We tx Y (tOp (rInP Y.K true) ta tb) Γ dBool (m >>= fun x => n >>= fun xs => .ok (!memB x xs)) := we_p2 (f := fun (x : α) xs => !memB x xs) (fun k h => w_notinD hd h) h h2
theorem w_inDT [de : @DE α d] [DecidableEq α] {kb : Bool → Prop} (hd : de.dep ≤ 64) (h : R Y ta Γ d fun x => R Y tb Γ (dTup (d := d)) fun xs => kb (memB x xs.l)) : W Y (tOp (rInP Y.K false) ta tb) Γ dBool kb := fun e F σ H s Q q => h e F σ H s _ fun v1 F1 H1 x h1 g1 r1 => h1 e F1 σ H1 (s.grow g1) _ fun v2 F2 H2 xs ky g2 ⟨a, vs, e2, h2, r2⟩ => by
  subst e2
  exact ⟨de.toD x, xs.l.map de.toD, de.dp (d.mono g2.hh0 r1), .inr (.tup h2.sq (dpAll_of r2)), de_shaped hd x, layAll_of xs.l, q _ F2 H2 _ ky (g1.trans0 g2) (by show V.bl _ = V.bl _; congr 1; exact any_eqv x xs.l)⟩
theorem we_inDT [de : @DE α d] [DecidableEq α] {m : M α} {n : M (Tup α)} (hd : de.dep ≤ 64) (h : Re tx Y ta Γ d m) (h2 : Re tx Y tb Γ (dTup (d := d)) n) : We tx Y (tOp (rInP Y.K false) ta tb) Γ dBool (m >>= fun x => n >>= fun xs => .ok (memB x xs.l)) := we_p2 (f := fun (x : α) (xs : Tup α) => memB x xs.l) (fun k h => w_inDT hd h) h h2
theorem w_notinDT [de : @DE α d] [DecidableEq α] {kb : Bool → Prop} (hd : de.dep ≤ 64) (h : R Y ta Γ d fun x => R Y tb Γ (dTup (d := d)) fun xs => kb (!memB x xs.l)) : W Y (tOp (rInP Y.K true) ta tb) Γ dBool kb := fun e F σ H s Q q => h e F σ H s _ fun v1 F1 H1 x h1 g1 r1 => h1 e F1 σ H1 (s.grow g1) _ fun v2 F2 H2 xs ky g2 ⟨a, vs, e2, h2, r2⟩ => by
  subst e2
  exact ⟨de.toD x, xs.l.map de.toD, de.dp (d.mono g2.hh0 r1), .inr (.tup h2.sq (dpAll_of r2)), de_shaped hd x, layAll_of xs.l, q _ F2 H2 _ ky (g1.trans0 g2) (by show V.bl _ = V.bl _; rw [if_pos rfl]; exact congrArg (fun b => V.bl (!b)) (any_eqv x xs.l))⟩
theorem we_notinDT [de : @DE α d] [DecidableEq α] {m : M α} {n : M (Tup α)} (hd : de.dep ≤ 64) (h : Re tx Y ta Γ d m) (h2 : Re tx Y tb Γ (dTup (d := d)) n) : We tx Y (tOp (rInP Y.K true) ta tb) Γ dBool (m >>= fun x => n >>= fun xs => .ok (!memB x xs.l)) := we_p2 (f := fun (x : α) (xs : Tup α) => !memB x xs.l) (fun k h => w_notinDT hd h) h h2
end
end G
end

noncomputable section
/-! M7: properties, pairs joined. -/
namespace L2
open PySem PySem.Spec PyProof.Rows
theorem catT_K {X : Cx} (K : PySem.W.Frag) (h : X.K = K := by rfl) : OpR X (binaryOp .Add) (rCatA K) := h ▸ op_catA
end L2
namespace G
open PySem PySem.Spec PyProof.Rows L2 PySem.W
theorem repsStr {C : GCtx} {F : Hp} : ∀ xs : List Str, Reps dStr C F (xs.map V.str) xs
  | [] => trivial
  | _ :: xs => ⟨rfl, repsStr xs⟩
section
variable {tx : XC → Addr} {Y : YC} {Γ : List Cell} {ta tb : TE} {α β γ δ : Type} {d : Dat α} {d1 : Dat α} {d2 : Dat β} {d3 : Dat γ} {d4 : Dat δ} {sp : Sp} {C0 : Addr} {ns : List Str}
theorem w_cat22 {k : T4 α β γ δ → Prop} (h : W Y ta Γ (dPair (d1 := d1) (d2 := d2)) fun x => W Y tb Γ (dPair (d1 := d3) (d2 := d4)) fun y => k ⟨x.1, x.2, y.1, y.2⟩) : W Y (tOp (rCatA Y.K) ta tb) Γ (dT4 (d1 := d1) (d2 := d2) (d3 := d3) (d4 := d4)) k := fun e F σ H s Q q => h e F σ H s _ fun v1 F1 H1 x h1 g1 ⟨a, u1, u2, e1, ht, r1, r2⟩ => h1 e F1 σ H1 (s.grow g1) _ fun v2 F2 H2 y ky g2 ⟨b, u3, u4, e2, ht2, r3, r4⟩ => by
  subst e1 e2
  refine ⟨a, b, [u1, u2], [u3, u4], rfl, rfl, (ht.mono (g2.ff.trans g2.fh)).sq, (ht2.mono g2.fh).sq, show (4 : Nat) ≤ PySem.sizeLine by decide, fun z => absurd z (by simp), fun _ z => absurd z (by simp), fun _ _ p hp => ?_⟩
  have g3 := Gr.lay (o := .tup [u1, u2, u3, u4]) g2.base hp
  exact q _ _ _ _ ky ((g1.trans0 g2).trans0 g3) ⟨p, u1, u2, u3, u4, rfl, .inl upd_same, d1.mono (g2.ff.trans g3.ff) r1, d2.mono (g2.ff.trans g3.ff) r2, d3.mono g3.ff r3, d4.mono g3.ff r4⟩
theorem we_cat22 {m : M (α × β)} {n : M (γ × δ)} (h : We tx Y ta Γ (dPair (d1 := d1) (d2 := d2)) m) (h2 : We tx Y tb Γ (dPair (d1 := d3) (d2 := d4)) n) : We tx Y (tOp (rCatA Y.K) ta tb) Γ (dT4 (d1 := d1) (d2 := d2) (d3 := d3) (d4 := d4)) (m >>= fun x => n >>= fun y => .ok ⟨x.1, x.2, y.1, y.2⟩) := fun nb xk =>
  w_cat22 (h.k nb xk fun x e nb xk => h2.k nb xk fun y e2 nb xk => by rw [e]; show (n >>= _) = _; rw [e2]; rfl)
theorem w_prop {kx : β → Prop} (hI : IsI d C0 ns) (h : W Y ta Γ d fun x => SpX Y.g sp [.val d x] (fun c => ∃ r, c = .val d2 r ∧ kx r) fun _ => False) : W Y (tProp C0 sp [] EF ta) Γ d2 kx := fun e F σ H s Q q => h e F σ H s _ fun v F1 H1 x h1 g1 r1 => by
  obtain ⟨p, dx, fs, e1, e2, _⟩ := hI.ins r1
  subst e1
  refine ⟨p, dx, fs, rfl, g1.fh _ _ e2, h1 [.ref p] H1 Q _ ⟨F1, g1.base, .cons (L := []) ⟨rfl, _, rfl, r1⟩ .nil, fun v' F' H' c L ⟨r, ec, kr⟩ g3 rc => ?_, fun _ _ _ _ z => z.elim⟩⟩
  subst ec
  obtain ⟨e4, v3, e5, rv⟩ := rc
  subst e4
  cases (Option.some.inj e5)
  exact q v' F' H' r kr (g1.trans0 g3) rv
theorem we_prop {f : α → M β} {m : M α} (hs : ∀ x, (f x).nb → SpX Y.g sp [.val d x] (fun c => ∃ r, c = .val d2 r ∧ f x = .ok r) fun x' => ∃ px, f x = .exc px ∧ x' = px.x tx) (hI : IsI d C0 ns) (h : We tx Y ta Γ d m) : We tx Y (tProp C0 sp [] EF ta) Γ d2 (m >>= fun x => M.calm (f x)) := fun nb xk =>
  w_prop hI (h.k nb xk fun x e1 nb xk => fun vs H Q E fx => by
    obtain ⟨b, eb⟩ := M.calm_nb nb
    refine hs x (by rw [eb]; exact fun z => nomatch z) vs H Q E (fx.mono (fun c ⟨r, e, q⟩ => ⟨r, e, ?_⟩) fun x' ⟨px, e, q⟩ => by rw [eb] at e; cases e)
    rw [eb] at q
    cases q
    rw [e1]; show M.calm (f x) = _; rw [eb]; rfl)
end
end G
end

noncomputable section
/-! M8: setdefault, d[k].append(y), dict comprehensions. -/
namespace G
open PySem PySem.Spec PyProof.Rows L2 PySem.W
section
variable {Y : YC} {Γ : List Cell} {k : Ks} {ta tk tv te : TE} {α β : Type} {d : Dat α}
/-- x = d.setdefault(n, y) -/
def setdI {α : Type} (x : DI α) (n : Int) (y : α) : DI α × α := match x.kv.lookup n with | some v => (x, v) | none => (⟨putI x.kv n y⟩, y)
theorem z_setd {pin : Option V} {i j : Nat} {x : DI α} {c0 : Cell} (hij : i ≠ j) (hi : Γ[i]? = some (.own (dDI (d := d)) (oDI (d := d)) pin x)) (hj : Γ[j]? = some c0)
    (h : R Y tk Γ dInt fun n => W Y tv Γ d fun y => x.kv.length < PySem.sizeLine ∧ k.nx ((Γ.set i (.own (dDI (d := d)) (oDI (d := d)) pin (setdI x n y).1)).set j (.val d (setdI x n y).2))) :
    Z Y (tAsg (tDSetd (tVar i) tk tv) (gName j)) Γ k := fun e F σ H D hM s c => by
  obtain ⟨v0, _, _, e1, ⟨a, ps, rfl, rfl, _⟩, kw0, _⟩ := s.mut hi
  have ha0 : H a = some (.dK ps) := (kw0.ow (a, .dK ps) (by simp)).2.1
  refine ⟨.ref a, e1, a, rfl, .inl ⟨ps, .inl ha0⟩, h e F σ H s _ fun v1 F1 H1 n hn g1 r1 => ?_⟩
  cases (show v1 = .int n from r1)
  refine hn e F1 σ H1 (s.grow g1) _ fun v2 F2 H2 y ⟨hl, kn⟩ g2 r2 => ?_
  obtain ⟨w1, L1, rest1, e3, ⟨b1, us1, rfl, rfl, r⟩, kv1, f1⟩ := ((s.grow g1).grow g2).mut hi
  rw [e1] at e3
  cases (Option.some.inj e3)
  have ha : H2 a = some (.dK us1) := (kv1.ow (a, .dK us1) (by simp)).2.1
  refine ⟨us1, Sum.inl n, ha, rfl, by rw [r.len]; exact hl, fun v hv => ?_, fun hv => ?_⟩
  · cases hx : x.kv.lookup n with
    | none => rw [(r.look n).2 hx] at hv; cases hv
    | some z =>
      obtain ⟨v', hv', rv⟩ := (r.look n).1 z hx
      rw [hv] at hv'
      cases (Option.some.inj hv')
      have es : setdI x n y = (x, z) := by unfold setdI; rw [hx]
      rw [es] at kn
      have s2 := f1 F2 H2 [(a, .dK us1)] x (Same.refl F2) kv1 ⟨a, us1, rfl, rfl, r⟩
      have hj2 : (Γ.set i (.own (dDI (d := d)) (oDI (d := d)) pin x))[j]? = some c0 := by rw [List.getElem?_set_ne hij]; exact hj
      exact c.nx F2 _ _ _ kn (s2.set (c' := .val d z) (L' := []) hj2 s2.base ⟨rfl, v, rfl, rv⟩)
  · cases hx : x.kv.lookup n with
    | some z =>
      obtain ⟨v', hv', rv⟩ := (r.look n).1 z hx
      rw [hv] at hv'
      cases hv'
    | none =>
      have es : setdI x n y = (⟨putI x.kv n y⟩, y) := by unfold setdI; rw [hx]
      rw [es] at kn
      have s2 := f1 F2 _ [(a, .dK (putK us1 (Sum.inl n) v2))] ⟨putI x.kv n y⟩ (Same.refl F2) (kv1.put (fun _ z => by cases z)) ⟨a, _, rfl, rfl, r.put r2⟩
      have hj2 : (Γ.set i (.own (dDI (d := d)) (oDI (d := d)) pin ⟨putI x.kv n y⟩))[j]? = some c0 := by rw [List.getElem?_set_ne hij]; exact hj
      exact c.nx F2 _ _ _ kn (s2.set (c' := .val d y) (L' := []) hj2 s2.base ⟨rfl, v2, rfl, r2⟩)
end
section
variable {tx : XC → Addr} {Y : YC} {Γ : List Cell} {ta tk tv te tl : TE} {tt : TT} {g : TG} {α β τ : Type} {d : Dat α} {d2 : Dat β} {rest : TS} {js vs : List Nat} {K : Kt τ}
def M.setd {α : Type} (x : DI α) (mk : M Int) (mv : M α) : M (DI α × α) := mk >>= fun n => mv >>= fun y => M.asrt (x.kv.length < PySem.sizeLine) (.ok (setdI x n y))
theorem zm_setd {pin : Option V} {i j : Nat} {x : DI α} {c0 : Cell} {mk : M Int} {mv : M α} {m2 : DI α × α → M τ} (hi : Γ[i]? = some (.own (dDI (d := d)) (oDI (d := d)) pin x)) (hij : (i == j) = false) (hj' : Γ[j]? = some c0) (hj : i ∈ js) (hjj : j ∈ js) (hk : Re tx Y tk Γ dInt mk) (hv : We tx Y tv Γ d mv)
    (h2 : ∀ p, Zm tx Y js rest ((Γ.set i (.own (dDI (d := d)) (oDI (d := d)) pin p.1)).set j (.val d p.2)) K (m2 p)) : Zm tx Y js (tSeq (tAsg (tDSetd (tVar i) tk tv) (gName j)) rest) Γ K (M.setd x mk mv >>= m2) := fun nb xk =>
  z_seq (z_setd (by simpa using hij) hi hj' (hk.k (M.nb1 nb) xk.l.here fun n e nb3 xk3 => hv.k nb3 xk3 fun y e2 nb4 _ => ⟨M.asrt_nb nb4, (h2 (setdI x n y)).go nb xk (by unfold M.setd; rw [e]; show (mv >>= _) = _; rw [e2]; exact M.asrt_pos (M.asrt_nb nb4)) (by rw [wipeC_set hjj, wipeC_set hj])⟩))
/-- d[k].append(y) -/
def M.appDI {α : Type} (x : DI (List α)) (mk : M Int) (mv : M α) : M (DI (List α)) := mk >>= fun n => M.ofO (x.kv.lookup n) >>= fun xs => mv >>= fun y => M.asrt (xs.length < PySem.sizeLine) (.ok ⟨setI x.kv n (xs ++ [y])⟩)
theorem zm_appDI {pin : Option V} {i : Nat} {x : DI (List α)} {mk : M Int} {mv : M α} {m2 : DI (List α) → M τ} (hi : Γ[i]? = some (.own (dDI (d := dList (d := d))) (oDeepDI (oList (d := d))) pin x)) (hj : i ∈ js) (hk : Re tx Y ta Γ dInt mk) (hv : We tx Y te Γ d mv)
    (h2 : ∀ y, Zm tx Y js rest (Γ.set i (.own (dDI (d := dList (d := d))) (oDeepDI (oList (d := d))) pin y)) K (m2 y)) : Zm tx Y js (tSeq (tDrop (tBM Y.K "list" rAppend (tDGet (tVar i) ta) (tCons te tNil))) rest) Γ K (M.appDI x mk mv >>= m2) := fun nb xk =>
  z_seq (z_appendDI hi (hk.k (M.nb1 nb) xk.l.here fun n e nb3 xk3 => by
    cases hx : x.kv.lookup n with
    | none => rw [hx] at nb3; exact absurd rfl nb3
    | some xs =>
      rw [hx] at nb3 xk3
      exact ⟨xs, rfl, hv.k nb3 xk3 fun y e2 nb4 _ => ⟨M.asrt_nb nb4, (h2 _).go nb xk (by unfold M.appDI; rw [e]; show (M.ofO (x.kv.lookup n) >>= _) = _; rw [hx]; show (mv >>= _) = _; rw [e2]; exact M.asrt_pos (M.asrt_nb nb4)) (wipeC_set hj)⟩⟩))
/-- {key: value for x in xs if test} over a sequence; the keys new each time -/
def M.dcomp {α β : Type} (p : α → M Bool) (fk : α → M Int) (fv : α → M β) (xs : List α) : M (DI β) :=
  M.fold (fun (s : DI β) x => M.calm (p x) >>= fun b => if b then M.calm (fk x) >>= fun n => M.calm (fv x) >>= fun y => M.asrt (s.kv.lookup n = none ∧ s.kv.length < PySem.sizeLine) (.ok ⟨s.kv ++ [(n, y)]⟩) else .ok s) ⟨[]⟩ xs
theorem oe_dc {od : @OD β d2} {m0 : M (Sq α)} {p : α → M Bool} {fk : α → M Int} {fv : α → M β} (hT : Tg g vs ∧ MoG g) (h : We tx Y tl Γ (dSq (d := d)) m0)
    (hb : ∀ x, A Y g (wipeC Γ vs) d x fun Γ2 => Te tx (calm Y.g) tt Γ2 (p x) ∧ We tx (calm Y.g) tk Γ2 dInt (fk x) ∧ Oe tx (calm Y.g) tv Γ2 od (fv x)) :
    Oe tx Y (tDc (iSeq Y.K tl) g tt tk tv vs) Γ (oDeepDI od) (m0 >>= fun xs => M.dcomp p fk fv xs.l) := fun nb xk => o_dcQ hT (h.k nb xk fun q e nb2 xk2 => by
  obtain ⟨xs⟩ := q
  have nb2 : (M.dcomp p fk fv xs).nb := nb2
  let f : DI β → α → M (DI β) := fun s x => M.calm (p x) >>= fun b => if b then M.calm (fk x) >>= fun n => M.calm (fv x) >>= fun y => M.asrt (s.kv.lookup n = none ∧ s.kv.length < PySem.sizeLine) (.ok ⟨s.kv ++ [(n, y)]⟩) else .ok s
  refine ⟨fun i kv => M.fold f ⟨[]⟩ (xs.take i) = .ok ⟨kv⟩, rfl, fun i x kv hx hi => ?_, fun kv hi => ?_⟩
  · have hx' : xs[i]? = some x := hx
    have htk : xs.take (i + 1) = xs.take i ++ [x] := by rw [List.take_add_one, hx']; rfl
    have e1 : M.fold f ⟨[]⟩ (xs.take (i + 1)) = f ⟨kv⟩ x := by rw [htk, M.fold_snoc, hi]; rfl
    have nb3 : (f ⟨kv⟩ x).nb := fun z => nb2 (by
      show M.fold f ⟨[]⟩ xs = .bad
      have : xs = xs.take (i + 1) ++ xs.drop (i + 1) := (List.take_append_drop _ _).symm
      rw [this, M.fold_app, e1, z]; rfl)
    intro e0 F σ0 H v s r Q q
    refine hb x e0 F σ0 H v s r Q fun σ' Γ' ⟨ht, hk, hv⟩ s' => q σ' Γ' ?_ s'
    obtain ⟨b, hb1⟩ := M.calm_nb (M.nb1 nb3)
    have e2 : f ⟨kv⟩ x = (if b then M.calm (fk x) >>= fun n => M.calm (fv x) >>= fun y => M.asrt (kv.lookup n = none ∧ kv.length < PySem.sizeLine) (.ok ⟨kv ++ [(n, y)]⟩) else .ok ⟨kv⟩) := by
      show (M.calm (p x) >>= _) = _
      rw [hb1]; rfl
    refine t_mono (t_calm (ht (by rw [hb1]; exact fun z => nomatch z) (by rw [hb1]; exact XkM.ok))) fun b' eb => ⟨fun z => ?_, fun z => ?_⟩
    · rw [hb1] at eb
      cases eb
      subst z
      rw [e2, if_pos rfl] at nb3
      rw [e2, if_pos rfl] at e1
      obtain ⟨n, hn⟩ := M.calm_nb (M.nb1 nb3)
      rw [hn] at nb3 e1
      have nb4 : (M.calm (fv x) >>= fun y => M.asrt (kv.lookup n = none ∧ kv.length < PySem.sizeLine) (.ok (⟨kv ++ [(n, y)]⟩ : DI β))).nb := nb3
      have e4 : M.fold f ⟨[]⟩ (xs.take (i + 1)) = (M.calm (fv x) >>= fun y => M.asrt (kv.lookup n = none ∧ kv.length < PySem.sizeLine) (.ok (⟨kv ++ [(n, y)]⟩ : DI β))) := e1
      obtain ⟨y, hy⟩ := M.calm_nb (M.nb1 nb4)
      rw [hy] at nb4 e4
      have hp : kv.lookup n = none ∧ kv.length < PySem.sizeLine := M.asrt_nb nb4
      refine w_mono (w_calm (hk (by rw [hn]; exact fun z => nomatch z) (by rw [hn]; exact XkM.ok))) fun n' en => ?_
      rw [hn] at en
      cases en
      refine o_mono (o_calm (hv (by rw [hy]; exact fun z => nomatch z) (by rw [hy]; exact XkM.ok))) fun y' ey => ?_
      rw [hy] at ey
      cases ey
      exact ⟨hp.1, hp.2, e4.trans (M.asrt_pos hp)⟩
    · rw [hb1] at eb
      cases eb
      subst z
      rw [e2, if_neg (by simp)] at e1
      exact e1
  · have hi' : M.fold f ⟨[]⟩ (xs.take xs.length) = .ok ⟨kv⟩ := hi
    rw [List.take_length] at hi'
    rw [e]
    exact hi')
end
end G
end

noncomputable section
/-! M9: plain data of any shape. -/
namespace G
open PySem PySem.Spec PyProof.Rows L2 PySem.W
mutual
def DU (C : GCtx) (F : Hp) : PyData → V → Prop
  | .none, v => v = .non
  | .bool b, v => v = .bl b
  | .int i, v => v = .int i
  | .str s, v => v = .str s
  | .list ds, v => ∃ a vs, v = .ref a ∧ Rd F a (.lst vs) ∧ DUs C F ds vs
  | .tuple ds, v => ∃ a vs, v = .ref a ∧ TpA C.K F a vs ∧ DUs C F ds vs
  | .dict _, _ => False
def DUs (C : GCtx) (F : Hp) : List PyData → List V → Prop
  | [], [] => True
  | d :: ds, v :: vs => DU C F d v ∧ DUs C F ds vs
  | [], _ :: _ => False
  | _ :: _, [] => False
end
mutual
theorem DU.mono {C : GCtx} {F F' : Hp} (s : Same F F') : ∀ (x : PyData) (v : V), DU C F x v → DU C F' x v
  | .none, _, h => h
  | .bool _, _, h => h
  | .int _, _, h => h
  | .str _, _, h => h
  | .list ds, _, ⟨a, vs, e, h, r⟩ => ⟨a, vs, e, h.imp (s a _) fun ⟨o, e⟩ => ⟨o, s a _ e⟩, DUs.mono s ds vs r⟩
  | .tuple ds, _, ⟨a, vs, e, h, r⟩ => ⟨a, vs, e, h.mono s, DUs.mono s ds vs r⟩
  | .dict _, _, h => h.elim
theorem DUs.mono {C : GCtx} {F F' : Hp} (s : Same F F') : ∀ (xs : List PyData) (vs : List V), DUs C F xs vs → DUs C F' xs vs
  | [], [], h => h
  | d :: ds, v :: vs, h => ⟨DU.mono s d v h.1, DUs.mono s ds vs h.2⟩
  | [], _ :: _, h => h.elim
  | _ :: _, [], h => h.elim
end
mutual
theorem DU.dp {C : GCtx} {F : Hp} : ∀ (x : PyData) (v : V), DU C F x v → Dp C.K F v x
  | .none, _, h => by cases (show _ = _ from h); exact .non
  | .bool _, _, h => by cases (show _ = _ from h); exact .bl _
  | .int _, _, h => by cases (show _ = _ from h); exact .int _
  | .str _, _, h => by cases (show _ = _ from h); exact .str _
  | .list ds, _, ⟨a, vs, e, h, r⟩ => by subst e; exact .lst (.inl h) (DUs.dp ds vs r)
  | .tuple ds, _, ⟨a, vs, e, h, r⟩ => by subst e; exact .tup h.sq (DUs.dp ds vs r)
  | .dict _, _, h => h.elim
theorem DUs.dp {C : GCtx} {F : Hp} : ∀ (xs : List PyData) (vs : List V), DUs C F xs vs → DpAll C.K F vs xs
  | [], [], _ => .nil
  | d :: ds, v :: vs, h => .cons (DU.dp d v h.1) (DUs.dp ds vs h.2)
  | [], _ :: _, h => h.elim
  | _ :: _, [], h => h.elim
end
mutual
theorem DU.pl {C : GCtx} {F : Hp} : ∀ (x : PyData) (v : V), DU C F x v → x.plain = true
  | .none, _, _ => rfl
  | .bool _, _, _ => rfl
  | .int _, _, _ => rfl
  | .str _, _, _ => rfl
  | .list ds, _, ⟨a, vs, e, h, r⟩ => by simp only [PyData.plain]; exact DUs.pl ds vs r
  | .tuple ds, _, ⟨a, vs, e, h, r⟩ => by simp only [PyData.plain]; exact DUs.pl ds vs r
  | .dict _, _, h => h.elim
theorem DUs.pl {C : GCtx} {F : Hp} : ∀ (xs : List PyData) (vs : List V), DUs C F xs vs → PyData.plainAll xs = true
  | [], _, _ => rfl
  | d :: ds, v :: vs, h => by simp only [PyData.plainAll, DU.pl d v h.1, DUs.pl ds vs h.2, Bool.and_self]
  | _ :: _, [], h => h.elim
end
abbrev U := PyData
@[reducible] def dU : Dat U := ⟨fun C F v x => DU C F x v, fun s h => DU.mono s _ _ h⟩
/-- data that are plain data -/
class UD (α : Type) [d : Dat α] where
  toU : α → U
  du : ∀ {C : GCtx} {F : Hp} {v : V} {x : α}, d.rep C F v x → DU C F (toU x) v
instance udInt : UD Int := ⟨.int, fun h => h⟩
instance udBool : UD Bool := ⟨.bool, fun h => h⟩
instance udStr : UD Str := ⟨.str, fun h => h⟩
instance udUnit : UD Unit := ⟨fun _ => .none, fun h => h⟩
theorem dus_of {α : Type} {d : Dat α} [u : @UD α d] {C : GCtx} {F : Hp} : ∀ {vs : List V} {xs : List α}, Reps d C F vs xs → DUs C F (xs.map u.toU) vs
  | [], [], _ => trivial
  | _ :: _, _ :: _, h => ⟨u.du h.1, dus_of h.2⟩
  | [], _ :: _, h => h.elim
  | _ :: _, [], h => h.elim
instance udList {α : Type} {d : Dat α} [u : @UD α d] : @UD (List α) dList := ⟨fun xs => .list (xs.map u.toU), fun ⟨a, vs, e, h, r⟩ => ⟨a, vs, e, h, dus_of r⟩⟩
instance udTup {α : Type} {d : Dat α} [u : @UD α d] : @UD (Tup α) dTup := ⟨fun xs => .tuple (xs.l.map u.toU), fun ⟨a, vs, e, h, r⟩ => ⟨a, vs, e, h, dus_of r⟩⟩
instance udPair {α β : Type} {d1 : Dat α} {d2 : Dat β} [u1 : @UD α d1] [u2 : @UD β d2] : @UD (α × β) dPair := ⟨fun x => .tuple [u1.toU x.1, u2.toU x.2], fun ⟨a, v1, v2, e, h, r1, r2⟩ => ⟨a, _, e, h, u1.du r1, u2.du r2, trivial⟩⟩
instance udT3 {α β γ : Type} {d1 : Dat α} {d2 : Dat β} {d3 : Dat γ} [u1 : @UD α d1] [u2 : @UD β d2] [u3 : @UD γ d3] : @UD (T3 α β γ) dT3 := ⟨fun x => .tuple [u1.toU x.a, u2.toU x.b, u3.toU x.c], fun ⟨a, v1, v2, v3, e, h, r1, r2, r3⟩ => ⟨a, _, e, h, u1.du r1, u2.du r2, u3.du r3, trivial⟩⟩
instance udT4 {α β γ δ : Type} {d1 : Dat α} {d2 : Dat β} {d3 : Dat γ} {d4 : Dat δ} [u1 : @UD α d1] [u2 : @UD β d2] [u3 : @UD γ d3] [u4 : @UD δ d4] : @UD (T4 α β γ δ) dT4 := ⟨fun x => .tuple [u1.toU x.a, u2.toU x.b, u3.toU x.c, u4.toU x.d], fun ⟨a, v1, v2, v3, v4, e, h, r1, r2, r3, r4⟩ => ⟨a, _, e, h, u1.du r1, u2.du r2, u3.du r3, u4.du r4, trivial⟩⟩
def tyU : U → String
  | .none => "NoneType" | .bool _ => "bool" | .int _ => "int" | .str _ => "str" | .list _ => "list" | .tuple _ => "tuple" | .dict _ => "dict"
/-- isinstance(x, c), c written -/
def isTy (c t : String) : Bool := c == t || (t == "bool" && c == "int")
def isU (c : String) (x : U) : Bool := isTy c (tyU x)
theorem kitU {K : Frag} {c : String} (hc : c ∈ ["bool", "int", "str", "list", "tuple"]) {x : U} (hp : x.plain = true) : kitOne K (.type (tyU x)) (.type c) = some (isU c x) := by
  refine kit_ty ?_
  simp only [List.mem_cons, List.not_mem_nil, or_false] at hc
  cases x with
  | dict _ => cases hp
  | none => rcases hc with rfl | rfl | rfl | rfl | rfl <;> (show kitB "NoneType" _ = some (isTy _ "NoneType"); decide +kernel)
  | bool _ => rcases hc with rfl | rfl | rfl | rfl | rfl <;> (show kitB "bool" _ = some (isTy _ "bool"); decide +kernel)
  | int _ => rcases hc with rfl | rfl | rfl | rfl | rfl <;> (show kitB "int" _ = some (isTy _ "int"); decide +kernel)
  | str _ => rcases hc with rfl | rfl | rfl | rfl | rfl <;> (show kitB "str" _ = some (isTy _ "str"); decide +kernel)
  | list _ => rcases hc with rfl | rfl | rfl | rfl | rfl <;> (show kitB "list" _ = some (isTy _ "list"); decide +kernel)
  | tuple _ => rcases hc with rfl | rfl | rfl | rfl | rfl <;> (show kitB "tuple" _ = some (isTy _ "tuple"); decide +kernel)
theorem DU.ty {C : GCtx} {F : Hp} {v : V} : ∀ {x : U}, DU C F x v → TyX C.K F v (.type (tyU x))
  | .none, h => by cases (show v = _ from h); exact .base .non
  | .bool _, h => by cases (show v = _ from h); exact .base (.bl _)
  | .int _, h => by cases (show v = _ from h); exact .base (.int _)
  | .str _, h => by cases (show v = _ from h); exact .base (.str _)
  | .list _, ⟨a, vs, e, h, _⟩ => by subst e; exact ty_sql (.inl h)
  | .tuple _, ⟨a, vs, e, h, _⟩ => by subst e; exact ty_tpa h
  | .dict _, h => h.elim
def isNoneU : U → Bool
  | .none => true
  | _ => false
theorem DU.non {C : GCtx} {F : Hp} {v : V} : ∀ {x : U}, DU C F x v → decide (v = .non) = isNoneU x
  | .none, h => by cases (show v = _ from h); rfl
  | .bool _, h => by cases (show v = _ from h); rfl
  | .int _, h => by cases (show v = _ from h); rfl
  | .str _, h => by cases (show v = _ from h); rfl
  | .list _, ⟨a, vs, e, h, _⟩ => by subst e; rfl
  | .tuple _, ⟨a, vs, e, h, _⟩ => by subst e; rfl
  | .dict _, h => h.elim
theorem DUs.reps {C : GCtx} {F : Hp} : ∀ {ds : List U} {vs : List V}, DUs C F ds vs → Reps dU C F vs ds
  | [], [], _ => trivial
  | _ :: _, _ :: _, h => ⟨h.1, DUs.reps h.2⟩
  | [], _ :: _, h => h.elim
  | _ :: _, [], h => h.elim
/-- the items of a list or tuple -/
def itemsU : U → Option (List U)
  | .list ds => some ds
  | .tuple ds => some ds
  | _ => none
section
variable {tx : XC → Addr} {Y : YC} {Γ : List Cell} {te ta tb : TE} {α : Type} {d : Dat α}
theorem w_U [u : @UD α d] {k : U → Prop} (h : W Y te Γ d fun x => k (u.toU x)) : W Y te Γ dU k := fun e F σ H s Q q => h e F σ H s Q fun v F' H' x kx g r => q v F' H' _ kx g (u.du r)
theorem we_U [u : @UD α d] {m : M α} (h : We tx Y te Γ d m) : We tx Y te Γ dU (m >>= fun x => .ok (u.toU x)) := we_p1w (f := u.toU) (fun k h => w_U h) h
theorem w_eqU {k : Bool → Prop} (h : R Y ta Γ dU fun x => R Y tb Γ dU fun y => (x.depth ≤ 64 ∧ y.depth ≤ 64) ∧ k (PyData.eqv x y)) : W Y (tOp (rEqP Y.K) ta tb) Γ dBool k := fun e F σ H s Q q => h e F σ H s _ fun v1 F1 H1 x h1 g1 r1 => h1 e F1 σ H1 (s.grow g1) _ fun v2 F2 H2 y ⟨hd, ky⟩ g2 r2 => by
  have q1 : DU Y.g H2 x v1 := DU.mono g2.hh0 _ _ r1
  have q2 : DU Y.g H2 y v2 := r2
  exact ⟨x, y, DU.dp _ _ q1, DU.dp _ _ q2, by unfold shP; rw [DU.pl _ _ q1, decide_eq_true hd.1]; rfl, by unfold shP; rw [DU.pl _ _ q2, decide_eq_true hd.2]; rfl, q _ F2 H2 _ ky (g1.trans0 g2) rfl⟩
theorem we_eqU {m n : M U} (h : Re tx Y ta Γ dU m) (h2 : Re tx Y tb Γ dU n) : We tx Y (tOp (rEqP Y.K) ta tb) Γ dBool (m >>= fun x => n >>= fun y => M.asrt (x.depth ≤ 64 ∧ y.depth ≤ 64) (.ok (PyData.eqv x y))) := we_g2 (P := fun x y : U => x.depth ≤ 64 ∧ y.depth ≤ 64) (f := fun x y : U => PyData.eqv x y) (fun k h => w_eqU h) h h2
theorem w_neU {k : Bool → Prop} (h : R Y ta Γ dU fun x => R Y tb Γ dU fun y => (x.depth ≤ 64 ∧ y.depth ≤ 64) ∧ k (!PyData.eqv x y)) : W Y (tOp (rNeP Y.K) ta tb) Γ dBool k := fun e F σ H s Q q => h e F σ H s _ fun v1 F1 H1 x h1 g1 r1 => h1 e F1 σ H1 (s.grow g1) _ fun v2 F2 H2 y ⟨hd, ky⟩ g2 r2 => by
  have q1 : DU Y.g H2 x v1 := DU.mono g2.hh0 _ _ r1
  have q2 : DU Y.g H2 y v2 := r2
  exact ⟨x, y, DU.dp _ _ q1, DU.dp _ _ q2, by unfold shP; rw [DU.pl _ _ q1, decide_eq_true hd.1]; rfl, by unfold shP; rw [DU.pl _ _ q2, decide_eq_true hd.2]; rfl, q _ F2 H2 _ ky (g1.trans0 g2) rfl⟩
theorem we_neU {m n : M U} (h : Re tx Y ta Γ dU m) (h2 : Re tx Y tb Γ dU n) : We tx Y (tOp (rNeP Y.K) ta tb) Γ dBool (m >>= fun x => n >>= fun y => M.asrt (x.depth ≤ 64 ∧ y.depth ≤ 64) (.ok (!PyData.eqv x y))) := we_g2 (P := fun x y : U => x.depth ≤ 64 ∧ y.depth ≤ 64) (f := fun x y : U => !PyData.eqv x y) (fun k h => w_neU h) h h2
theorem w_isNU {k : Bool → Prop} (h : R Y ta Γ dU fun x => k (isNoneU x)) : W Y (tOp (fun x y H Q => y = .non ∧ Q (.bl (decide (x = .non))) H) ta (tC .non)) Γ dBool k := fun e F σ H s Q q => h e F σ H s _ fun v F' H' x kx g r => ⟨rfl, q _ F' H' _ kx g (by show V.bl _ = V.bl _; rw [DU.non r])⟩
theorem we_isNU {m : M U} (h : Re tx Y ta Γ dU m) : We tx Y (tOp (fun x y H Q => y = .non ∧ Q (.bl (decide (x = .non))) H) ta (tC .non)) Γ dBool (m >>= fun x => .ok (isNoneU x)) := we_p1 (f := isNoneU) (fun k h => w_isNU h) h
theorem w_notNU {k : Bool → Prop} (h : R Y ta Γ dU fun x => k (!isNoneU x)) : W Y (tOp (fun x y H Q => y = .non ∧ Q (.bl (!decide (x = .non))) H) ta (tC .non)) Γ dBool k := fun e F σ H s Q q => h e F σ H s _ fun v F' H' x kx g r => ⟨rfl, q _ F' H' _ kx g (by show V.bl _ = V.bl _; rw [DU.non r])⟩
theorem we_notNU {m : M U} (h : Re tx Y ta Γ dU m) : We tx Y (tOp (fun x y H Q => y = .non ∧ Q (.bl (!decide (x = .non))) H) ta (tC .non)) Γ dBool (m >>= fun x => .ok (!isNoneU x)) := we_p1 (f := fun x : U => !isNoneU x) (fun k h => w_notNU h) h
theorem w_isU {c : String} {k : Bool → Prop} (hc : c ∈ ["bool", "int", "str", "list", "tuple"]) (h : R Y ta Γ dU fun x => k (isU c x)) : W Y (tCB (rIsi Y.K) (tCons ta (tCons (tC (.ty c)) tNil))) Γ dBool k := fun e F σ H s Q q => h e F σ H s _ fun v F' H' x kx g r =>
  ⟨v, .ty c, .type (tyU x), .type c, isU c x, rfl, .ty c, DU.ty r, kitU hc (DU.pl _ _ r), q _ F' H' _ kx g rfl⟩
theorem we_isU {c : String} {m : M U} (hc : c ∈ ["bool", "int", "str", "list", "tuple"]) (h : Re tx Y ta Γ dU m) : We tx Y (tCB (rIsi Y.K) (tCons ta (tCons (tC (.ty c)) tNil))) Γ dBool (m >>= fun x => .ok (isU c x)) := we_p1 (f := isU c) (fun k h => w_isU hc h) h
/-- as a list or tuple -/
theorem w_sqU {k : Sq U → Prop} (h : W Y te Γ dU fun x => ∃ ds, itemsU x = some ds ∧ k ⟨ds⟩) : W Y te Γ (dSq (d := dU)) k := fun e F σ H s Q q => h e F σ H s Q fun v F' H' x ⟨ds, hi, kx⟩ g r => q v F' H' _ kx g (by
  cases x with
  | list xs => cases hi; obtain ⟨a, vs, e1, h1, r1⟩ := r; exact ⟨a, vs, e1, .inl (.inl h1), r1.reps⟩
  | tuple xs => cases hi; obtain ⟨a, vs, e1, h1, r1⟩ := r; exact ⟨a, vs, e1, .inr h1, r1.reps⟩
  | _ => cases hi)
theorem we_sqU {m : M U} (h : We tx Y te Γ dU m) : We tx Y te Γ (dSq (d := dU)) (m >>= fun x => M.ofO (itemsU x) >>= fun ds => .ok ⟨ds⟩) := fun nb xk => w_sqU (h.k nb xk fun x e nb2 _ => by
  cases hx : itemsU x with
  | none => rw [hx] at nb2; exact absurd rfl nb2
  | some ds => exact ⟨ds, rfl, by rw [e]; show (M.ofO (itemsU x) >>= _) = _; rw [hx]; rfl⟩)
end
end G
end

noncomputable section
/-! M10: pairs that own their parts. -/
namespace G
open PySem PySem.Spec PyProof.Rows L2 PySem.W
@[reducible] def oPair {α β : Type} {d1 : Dat α} {d2 : Dat β} (od1 : @OD α d1) (od2 : @OD β d2) : @OD (α × β) (dPair (d1 := d1) (d2 := d2)) := @OD.mk (α × β) (dPair (d1 := d1) (d2 := d2))
  (fun C F v x L => ∃ a v1 v2 L1 L2, v = .ref a ∧ L = L1 ++ L2 ∧ TpA C.K F a [v1, v2] ∧ od1.orep C F v1 x.1 L1 ∧ od2.orep C F v2 x.2 L2)
  (fun s ⟨a, v1, v2, L1, L2, e, h, t, r1, r2⟩ => ⟨a, v1, v2, L1, L2, e, h, t.mono s, od1.omono s r1, od2.omono s r2⟩)
  (fun ⟨a, v1, v2, L1, L2, e, h, t, r1, r2⟩ s k => ⟨a, v1, v2, e, t.mono s, od1.view r1 s fun p hp => k p (by rw [h]; exact List.mem_append_left _ hp), od2.view r2 s fun p hp => k p (by rw [h]; exact List.mem_append_right _ hp)⟩)
theorem Wk.subl {e : En} {F : Hp} {L L' : LO} {H : Hp} (a : Wk e F L H) (h : L'.Sublist L) : Wk e F L' H := a.sub (fun _ hp => h.subset hp) (List.Nodup.sublist (h.map _) a.nd)
theorem permR {α : Type} {L1 Li L2 M1 Mi M2 : List α} (e : L1 ++ [] ++ L2 = M1 ++ Mi ++ M2) : (L1 ++ Li ++ L2).Perm ((Li ++ Mi) ++ (M1 ++ [] ++ M2)) := by
  have e' : L1 ++ L2 = M1 ++ Mi ++ M2 := by simpa using e
  have h1 : (L1 ++ Li ++ L2).Perm (Li ++ (L1 ++ L2)) := by
    rw [List.append_assoc]
    have := (List.perm_append_comm (l₁ := L1) (l₂ := Li)).append_right L2
    simpa [List.append_assoc] using this
  refine h1.trans ?_
  rw [e']
  have h2 : (M1 ++ Mi ++ M2).Perm (Mi ++ (M1 ++ M2)) := by
    have := (List.perm_append_comm (l₁ := M1) (l₂ := Mi)).append_right M2
    simpa [List.append_assoc] using this
  simpa [List.append_assoc] using h2.append_left Li
section
variable {Y : YC} {Γ : List Cell} {k : Ks} {te : TE} {α β : Type} {d1 : Dat α} {d2 : Dat β}
theorem z_retP {od1 : @OD α d1} {od2 : @OD β d2} {i j : Nat} {x : α} {y : β} (hij : i ≠ j) (hi : Γ[i]? = some (.own d1 od1 none x)) (hj : Γ[j]? = some (.own d2 od2 none y))
    (h : k.rt (.own (dPair (d1 := d1) (d2 := d2)) (oPair od1 od2) none (x, y)) ((Γ.set i .no).set j .no)) : Z Y (tRet (tTup (tCons (tVar i) (tCons (tVar j) tNil)))) Γ k := fun e F σ H D hM s c => by
  obtain ⟨hx, L, k0, sl⟩ := id s
  obtain ⟨o, L1, Li, L2, e1, e2, ⟨v, rfl, _, r⟩, f⟩ := sl.get hi
  subst e2
  have sl2 := f F (some v) .no [] (Same.refl F) rfl
  obtain ⟨o', M1, Mi, M2, e3, e4, ⟨w, rfl, _, r2⟩, f2⟩ := sl2.get (i := j) (by rw [List.getElem?_set_ne hij]; exact hj)
  have sl3 := f2 F (some w) .no [] (Same.refl F) rfl
  rw [List.getElem?_set_ne hij] at e3
  refine ⟨v, e1, w, e3, show (2 : Nat) ≤ PySem.sizeLine by decide, fun p hp => ?_⟩
  have g := Gr.lay (o := .tup [v, w]) s.base hp
  have kw := k0.trans g
  exact c.rt _ _ _ _ (.ref p) _ (Li ++ Mi) (M1 ++ [] ++ M2) h (by
    rw [List.nil_append] at kw
    exact kw.perm (permR e4)) ⟨.ref p, rfl, fun _ z => (nomatch z), p, v, w, Li, Mi, rfl, rfl, .inl upd_same, od1.omono g.ff r, od2.omono g.ff r2⟩ (sl3.mono g.ff)
theorem permS1 {α : Type} {M1 M2 L1 Li L2 : List α} : ((M1 ++ M2) ++ (L1 ++ Li ++ L2)).Perm ((M2 ++ (L1 ++ M1 ++ L2)) ++ Li) := by
  classical
  rw [List.perm_iff_count]
  intro a
  simp only [List.count_append]
  omega
theorem permS2 {α : Type} {M2 N1 Nj N2 : List α} : (M2 ++ (N1 ++ Nj ++ N2)).Perm ((N1 ++ M2 ++ N2) ++ Nj) := by
  classical
  rw [List.perm_iff_count]
  intro a
  simp only [List.count_append]
  omega
theorem z_setP {od1 : @OD α d1} {od2 : @OD β d2} {i j n : Nat} {c1 c2 : Cell} (hn : n = 2) (hij : i ≠ j) (hi : Γ[i]? = some c1) (hj : Γ[j]? = some c2)
    (h : O Y te Γ (oPair od1 od2) fun x => k.nx ((Γ.set i (.own d1 od1 none x.1)).set j (.own d2 od2 none x.2))) : Z Y (tAsg te (gTup Y.K n (gCons (gName i) (gCons (gName j) gNil)))) Γ k := fun e F σ H D hM s c => h e F σ H s _ fun v F' H' L' x kx g ⟨a, v1, v2, M1, M2, e1, e2, ht, r1, r2⟩ => by
  subst e1 e2 hn
  refine ⟨a, [v1, v2], rfl, (ht.mono g.fh).sq, rfl, v1, [v2], rfl, v2, [], rfl, rfl, ?_⟩
  obtain ⟨hx, L, k0, sl⟩ := id s
  obtain ⟨o, L1, Li, L2, e3, e4, _, f⟩ := sl.get hi
  subst e4
  have sl2 := f F' (some v1) (.own d1 od1 none x.1) M1 g.ff ⟨v1, rfl, fun _ z => (nomatch z), r1⟩
  obtain ⟨o', N1, Nj, N2, e5, e6, _, f2⟩ := sl2.get (i := j) (by rw [List.getElem?_set_ne hij]; exact hj)
  have sl3 := f2 F' (some v2) (.own d2 od2 none x.2) M2 (Same.refl F') ⟨v2, rfl, fun _ z => (nomatch z), r2⟩
  refine c.nx F' _ H' _ kx ⟨hx, _, ?_, sl3⟩
  have kw := k0.trans g
  have k2 : Wk e F' (M2 ++ (L1 ++ M1 ++ L2)) H' := (kw.perm permS1).subl (List.sublist_append_left _ _)
  rw [e6] at k2
  exact (k2.perm permS2).subl (List.sublist_append_left _ _)
end
section
variable {tx : XC → Addr} {Y : YC} {Γ : List Cell} {te : TE} {α β τ : Type} {d1 : Dat α} {d2 : Dat β} {rest : TS} {js : List Nat} {K : Kt τ}
theorem zm_retP {od1 : @OD α d1} {od2 : @OD β d2} {cell : α × β → Cell} {i j : Nat} {x : α} {y : β} (hij : (i == j) = false) (hi : Γ[i]? = some (.own d1 od1 none x)) (hj : Γ[j]? = some (.own d2 od2 none y)) (hc : cell = fun r => .own (dPair (d1 := d1) (d2 := d2)) (oPair od1 od2) none r := by rfl) :
    Zm tx Y js (tSeq (tRet (tTup (tCons (tVar i) (tCons (tVar j) tNil)))) rest) Γ (KF cell) (.ok (x, y)) := fun nb xk => by
  subst hc
  exact z_retP (k := (KF fun r => Cell.own (dPair (d1 := d1) (d2 := d2)) (oPair od1 od2) none r).ks (M.ok (x, y))) (by simpa using hij) hi hj ⟨(x, y), rfl, rfl⟩
theorem zm_setP {od1 : @OD α d1} {od2 : @OD β d2} {i j n : Nat} {c1 c2 : Cell} {m1 : M (α × β)} {m2 : α × β → M τ} (hn : n = 2) (hij : (i == j) = false) (hi : Γ[i]? = some c1) (hj : Γ[j]? = some c2) (hji : i ∈ js) (hjj : j ∈ js) (h : Oe tx Y te Γ (oPair od1 od2) m1)
    (h2 : ∀ x, Zm tx Y js rest ((Γ.set i (.own d1 od1 none x.1)).set j (.own d2 od2 none x.2)) K (m2 x)) : Zm tx Y js (tSeq (tAsg te (gTup Y.K n (gCons (gName i) (gCons (gName j) gNil)))) rest) Γ K (m1 >>= m2) := fun nb xk =>
  z_seq (z_setP hn (by simpa using hij) hi hj (o_mono (h (M.nb1 nb) xk.l.here) fun x e => (h2 x).go nb xk e (by rw [wipeC_set hjj, wipeC_set hji])))
end
end G
end

noncomputable section
/-! M11: constants by their class, [*xs, y]. -/
namespace L2
open PySem PySem.Spec PyProof.Rows ClX StX
section
variable {X : Cx} (K : PySem.W.Frag)
theorem cval_K {e : Expr} {ta : TE} {f : Str} {pos : Pos} (he : PE X e ta) (hb : attributeBase e f X.env (eval e X.env) = eval e X.env := by rfl) (hK : X.K = K := by rfl) : PE X (.Attribute e f pos) (tCVal K ta f) := hK ▸ pe_cval he hb
theorem star_K {e : Expr} {es : List Expr} {te : TE} {t : TA} {p : Pos} (he : PE X e te) (hr : PA X es t) (hs : starEach (.Starred e p :: es) X.env = (true, eval e X.env) :: starEach es X.env := by rfl) (hK : X.K = K := by rfl) : PA X (.Starred e p :: es) (tStar K te t) := hK ▸ pa_star he hr hs
end
end L2
namespace G
open PySem PySem.Spec PyProof.Rows L2 PySem.W ClX StX
section
variable {tx : XC → Addr} {Y : YC} {Γ : List Cell} {te ta : TE} {α : Type} {d : Dat α}
theorem we_cval {C0 : Addr} {mc u : Value} {f : Str} {n : Int} (r : CRead Y.K C0 mc) (c : CVal Y.K C0 mc f (.int n) u) : We tx Y (tCVal Y.K (tC (.ref C0)) f) Γ dInt (.ok n) := fun nb xk e F σ H s Q q => ⟨C0, mc, .int n, u, rfl, r, c, q _ F H n rfl s.base rfl⟩
def M.star {α : Type} (xs : List α) (y : α) : M (List α) := M.asrt (xs.length + 1 ≤ PySem.sizeLine) (.ok (xs ++ [y]))
theorem o_star {k : List α → Prop} (h : W Y te Γ (dSq (d := d)) fun xs => W Y ta Γ d fun y => xs.l.length + 1 ≤ PySem.sizeLine ∧ k (xs.l ++ [y])) : O Y (tLst (tStar Y.K te (tCons ta tNil))) Γ (oList (d := d)) k := fun e F σ H s Q q => h e F σ H s _ fun v1 F1 H1 xs h1 g1 ⟨a, vs, e1, hs, r⟩ => by
  subst e1
  refine ⟨a, vs, rfl, ?_, h1 e F1 σ H1 (s.grow g1) _ fun v2 F2 H2 y ⟨hl, ky⟩ g2 r2 => ⟨?_, fun p hp => ?_⟩⟩
  · rcases hs with hs | hs
    · exact .inr (g1.fh.seq hs)
    · exact .inl (hs.mono g1.fh).sq
  · rw [List.length_append, r.len]; exact hl
  · have k1 := g2.base.own (o := .lst (vs ++ [v2])) hp (fun _ z => by cases z)
    exact q _ F2 _ _ _ ky ((g1.trans0 g2).trans k1) ⟨p, _, rfl, rfl, (r.mono g2.ff).append (Reps.one r2)⟩
theorem oe_star {m : M (Sq α)} {n : M α} (h : We tx Y te Γ (dSq (d := d)) m) (h2 : We tx Y ta Γ d n) : Oe tx Y (tLst (tStar Y.K te (tCons ta tNil))) Γ (oList (d := d)) (m >>= fun xs => n >>= fun y => M.star xs.l y) := fun nb xk =>
  o_star (h.k nb xk fun x e nb xk => h2.k nb xk fun y e2 nb2 _ => ⟨M.asrt_nb nb2, by rw [e]; show (n >>= _) = _; rw [e2]; exact M.asrt_pos (M.asrt_nb nb2)⟩)
end
section
variable {tx : XC → Addr} {Y : YC} {Γ : List Cell} {ta tb : TE} {α : Type} {d : Dat α}
def M.catT {α : Type} (xs ys : Tup α) : M (Tup α) := M.asrt (xs.l.length + ys.l.length ≤ PySem.sizeLine) (.ok ⟨xs.l ++ ys.l⟩)
theorem w_catT {k : Tup α → Prop} (h : W Y ta Γ (dTup (d := d)) fun xs => W Y tb Γ (dTup (d := d)) fun ys => xs.l.length + ys.l.length ≤ PySem.sizeLine ∧ k ⟨xs.l ++ ys.l⟩) : W Y (tOp (rCatA Y.K) ta tb) Γ (dTup (d := d)) k := fun e F σ H s Q q => h e F σ H s _ fun v1 F1 H1 xs h1 g1 ⟨a, us, e1, ht, r1⟩ => h1 e F1 σ H1 (s.grow g1) _ fun v2 F2 H2 ys ⟨hl, ky⟩ g2 ⟨b, ws, e2, ht2, r2⟩ => by
  subst e1 e2
  obtain ⟨xs⟩ := xs
  obtain ⟨ys⟩ := ys
  refine ⟨a, b, us, ws, rfl, rfl, (ht.mono (g2.ff.trans g2.fh)).sq, (ht2.mono g2.fh).sq, by rw [r1.len, r2.len]; exact hl, fun z => ?_, fun _ z => ?_, fun _ _ p hp => ?_⟩
  · subst z
    cases xs with
    | nil => exact q _ F2 H2 _ ky (g1.trans0 g2) ⟨b, ws, rfl, ht2, r2⟩
    | cons x xs => exact (show False from r1).elim
  · subst z
    cases ys with
    | nil => exact q _ F2 H2 _ ky (g1.trans0 g2) ⟨a, us, rfl, ht.mono g2.ff, by rw [List.append_nil]; exact r1.mono g2.ff⟩
    | cons y ys => exact (show False from r2).elim
  · have g3 := Gr.lay (o := .tup (us ++ ws)) g2.base hp
    exact q _ _ _ _ ky ((g1.trans0 g2).trans0 g3) ⟨p, us ++ ws, rfl, .inl upd_same, (r1.mono (g2.ff.trans g3.ff)).append (r2.mono g3.ff)⟩
theorem we_catT {m n : M (Tup α)} (h : We tx Y ta Γ (dTup (d := d)) m) (h2 : We tx Y tb Γ (dTup (d := d)) n) : We tx Y (tOp (rCatA Y.K) ta tb) Γ (dTup (d := d)) (m >>= fun xs => n >>= fun ys => M.catT xs ys) := fun nb xk =>
  w_catT (h.k nb xk fun x e nb xk => h2.k nb xk fun y e2 nb2 _ => ⟨M.asrt_nb nb2, by rw [e]; show (n >>= _) = _; rw [e2]; exact M.asrt_pos (M.asrt_nb nb2)⟩)
theorem w_tup1 {k : Tup α → Prop} (h : W Y ta Γ d fun x => k ⟨[x]⟩) : W Y (tTup (tCons ta tNil)) Γ (dTup (d := d)) k := fun e F σ H s Q q => h e F σ H s _ fun v1 F1 H1 x kx g1 r1 => ⟨show (1 : Nat) ≤ PySem.sizeLine by decide, fun p hp => by
  have g2 := Gr.lay (o := .tup [v1]) g1.base hp
  exact q _ _ _ ⟨[x]⟩ kx (g1.trans0 g2) ⟨p, [v1], rfl, .inl upd_same, d.mono g2.ff r1, trivial⟩⟩
theorem we_tup1 {m : M α} (h : We tx Y ta Γ d m) : We tx Y (tTup (tCons ta tNil)) Γ (dTup (d := d)) (m >>= fun x => .ok ⟨[x]⟩) := we_p1w (f := fun x : α => (⟨[x]⟩ : Tup α)) (fun k h => w_tup1 h) h
end
end G
end

noncomputable section
/-! M12: enumerate within comprehensions. -/
namespace G
open PySem PySem.Spec PyProof.Rows L2 PySem.W
def iEnumB (K : Frag) (ta : TA) : TI := fun σ H R => ta σ H fun vs H1 => ∃ a xs, vs = [.ref a] ∧ SqL K H1 a xs ∧ (xs.length ≤ sizeLine → R (Ite K a) H1)
def iEnumTB (K : Frag) (ta : TA) : TI := fun σ H R => ta σ H fun vs H1 => ∃ a xs, vs = [.ref a] ∧ SqT K H1 a xs ∧ (xs.length ≤ sizeLine → R (IteT K a) H1)
theorem pi_enumTB {X : Cx} {e : Expr} {ta : TA} {p pos tpos : Pos} {elts : List Expr} {kk : Nat} (hg : Gl X "enumerate") (hm : X.mg "enumerate" = none) (ha : PA X [e] ta) (hs : starEach [e] X.env = [(false, eval e X.env)] := by rfl) :
    PI X (.Tuple elts kk tpos) (.Call (.Name "enumerate" p) [e] [] pos) (iEnumTB X.K ta) := by
  refine ⟨fun pins s σ H R I h => ?_⟩
  refine Call_ (ld_blt I hg hm boot_enumerate (PyProof.Rows.callWith_type1 (thn (ha.run pos pins s σ H _ I h) fun us s1 ⟨vs, H1, I1, r1, q1⟩ => ?_) hs rfl))
  obtain ⟨a, xs, ex, hq, q⟩ := q1
  subst ex
  cases r1 with
  | cons r rr =>
    cases rr
    cases r
    obtain ⟨its, rv, p', hz⟩ := I1.tuple hq
    refine call_enumerate_tup (show s1.heap.IsTuple a its.toArray from p') fun h' he hit hsz hk => wpAny_pyIter_enum he ?_
    have I2 : Inv X pins σ H1 { s1 with heap := h' } := I1.kept (t' := s1.toks) hk
    refine ⟨s1.heap.objs.size + 1, [s1.heap.objs.size + 1, s1.heap.objs.size], _, _, H1, rfl, I2, turn_enumT a (s1.heap.objs.size + 1) s1.heap.objs.size, ⟨⟨.none, he⟩, hit, Nat.succ_ne_self _⟩, fun b hb => ?_, q hz⟩
    have e' : b = s1.heap.objs.size + 1 ∨ b = s1.heap.objs.size := by simpa using hb
    have hle : s1.heap.objs.size ≤ b := by
      rcases e' with z | z
      · rw [z]; exact Nat.le_add_right _ _
      · rw [z]; exact Nat.le_refl _
    exact I1.fpOk hle (I1.hok.fresh hle)
theorem pi_enumB {X : Cx} {e : Expr} {ta : TA} {p pos tpos : Pos} {elts : List Expr} {kk : Nat} (hg : Gl X "enumerate") (hm : X.mg "enumerate" = none) (ha : PA X [e] ta) (hs : starEach [e] X.env = [(false, eval e X.env)] := by rfl) :
    PI X (.Tuple elts kk tpos) (.Call (.Name "enumerate" p) [e] [] pos) (iEnumB X.K ta) := by
  refine ⟨fun pins s σ H R I h => ?_⟩
  refine Call_ (ld_blt I hg hm boot_enumerate (PyProof.Rows.callWith_type1 (thn (ha.run pos pins s σ H _ I h) fun us s1 ⟨vs, H1, I1, r1, q1⟩ => ?_) hs rfl))
  obtain ⟨a, xs, ex, hq, q⟩ := q1
  subst ex
  cases r1 with
  | cons r rr =>
    cases rr
    cases r
    obtain ⟨its, rv, p', hz⟩ := I1.list hq
    refine call_enumerate_list (show s1.heap.IsList a its.toArray from p'.isList) fun h' he hit hsz hk => wpAny_pyIter_enum he ?_
    have I2 : Inv X pins σ H1 { s1 with heap := h' } := I1.kept (t' := s1.toks) hk
    refine ⟨s1.heap.objs.size + 1, [s1.heap.objs.size + 1, s1.heap.objs.size], _, _, H1, rfl, I2, turn_enum a (s1.heap.objs.size + 1) s1.heap.objs.size, ⟨⟨.none, he⟩, hit, Nat.succ_ne_self _⟩, fun b hb => ?_, q hz⟩
    have e' : b = s1.heap.objs.size + 1 ∨ b = s1.heap.objs.size := by simpa using hb
    have hle : s1.heap.objs.size ≤ b := by
      rcases e' with z | z
      · rw [z]; exact Nat.le_add_right _ _
      · rw [z]; exact Nat.le_refl _
    exact I1.fpOk hle (I1.hok.fresh hle)
theorem pi_enLB (K : PySem.W.Frag) {X : Cx} {e : Expr} {ta : TA} {p pos tpos : Pos} {elts : List Expr} {kk : Nat} (hg : Gl X "enumerate") (hm : X.mg "enumerate" = none) (ha : PA X [e] ta) (hs : starEach [e] X.env = [(false, eval e X.env)] := by rfl) (h : X.K = K := by rfl) :
    PI X (.Tuple elts kk tpos) (.Call (.Name "enumerate" p) [e] [] pos) (iEnumB K ta) := h ▸ pi_enumB hg hm ha hs
theorem pi_enTB (K : PySem.W.Frag) {X : Cx} {e : Expr} {ta : TA} {p pos tpos : Pos} {elts : List Expr} {kk : Nat} (hg : Gl X "enumerate") (hm : X.mg "enumerate" = none) (ha : PA X [e] ta) (hs : starEach [e] X.env = [(false, eval e X.env)] := by rfl) (h : X.K = K := by rfl) :
    PI X (.Tuple elts kk tpos) (.Call (.Name "enumerate" p) [e] [] pos) (iEnumTB K ta) := h ▸ pi_enumTB hg hm ha hs
section
variable {tx : XC → Addr} {Y : YC} {Γ : List Cell} {te ta tb tl : TE} {t u tt : TT} {α β : Type} {d : Dat α} {d2 : Dat β} {g : TG}
theorem comp_turn0 {e : En} {F1 : Hp} {σ : L2.St} {H1 : Hp} {vs : List Nat} {D : Addr} {x : α} {v : V} {I I' : List β → Prop} (s1 : State Y e F1 σ H1 Γ) (hT : Tg g vs)
    (hs : ∀ ys, I ys → A Y g (wipeC Γ vs) d x fun Γ2 => T Y tt Γ2 fun b => (b = true → W Y te Γ2 d2 fun y => ys.length < PySem.sizeLine ∧ I' (ys ++ [y])) ∧ (b = false → I' ys)) {H F' : Hp} {acc : List V} {ys : List β}
    (kw : Wk ⟨F1, H1, []⟩ F' [(D, .lst acc)] H) (r : Reps d2 Y.g F' acc ys) (hi : I ys) (rx : d.rep Y.g F' v x) :
    g v (wipe σ vs) H fun σ2 H2 => wipe σ2 vs = wipe σ vs ∧ tt σ2 H2 fun b H3 =>
      if b = true then te σ2 H3 fun y H4 => ∃ acc, H4 D = some (.lst acc) ∧ acc.length < PySem.sizeLine ∧ (∃ F' acc' ys, Wk ⟨F1, H1, []⟩ F' [(D, .lst acc')] (upd H4 D (.lst (acc ++ [y]))) ∧ Reps d2 Y.g F' acc' ys ∧ I' ys) else (∃ F' acc ys, Wk ⟨F1, H1, []⟩ F' [(D, .lst acc)] H3 ∧ Reps d2 Y.g F' acc ys ∧ I' ys) := by
  have st := (s1.growL kw).wipe vs
  have ww : ∀ σ0 : L2.St, wipe (wipe σ0 vs) vs = wipe σ0 vs := by
    intro σ0
    have : ∀ (l : List Nat) (σ1 : L2.St), (∀ j ∈ l, (σ1[j]? = none ∨ σ1[j]? = some none)) → wipe σ1 l = σ1 := by
      intro l
      induction l with
      | nil => intro _ _; rfl
      | cons j l ih =>
        intro σ1 hj
        unfold wipe
        rw [ih σ1 fun m hm => hj m (List.mem_cons_of_mem _ hm)]
        apply List.ext_getElem?
        intro m
        rw [List.getElem?_set]
        by_cases hm : j = m
        · subst hm
          rcases hj j List.mem_cons_self with z | z
          · rw [z, if_pos rfl, if_neg (Nat.not_lt.mpr (List.getElem?_eq_none_iff.mp z))]
          · rw [z, if_pos rfl, if_pos (List.getElem?_eq_some_iff.mp z).1]
        · rw [if_neg hm]
    refine this vs _ fun j hj => ?_
    cases q : (wipe σ0 vs)[j]? with
    | none => exact .inl rfl
    | some o =>
      cases o with
      | none => exact .inr rfl
      | some y => exact absurd hj (wipe_some q).2
  have key := hs ys hi e F' _ H v st rx (fun σ2 H2 => tt σ2 H2 fun b H3 =>
      if b = true then te σ2 H3 fun y H4 => ∃ acc, H4 D = some (.lst acc) ∧ acc.length < PySem.sizeLine ∧ (∃ F' acc' ys, Wk ⟨F1, H1, []⟩ F' [(D, .lst acc')] (upd H4 D (.lst (acc ++ [y]))) ∧ Reps d2 Y.g F' acc' ys ∧ I' ys) else (∃ F' acc ys, Wk ⟨F1, H1, []⟩ F' [(D, .lst acc)] H3 ∧ Reps d2 Y.g F' acc ys ∧ I' ys)) fun σ2 Γ2 h2 st2 => by
    refine h2 e F' σ2 H st2 _ fun b F3 H3 kb g3 => ?_
    have kw3 := kw.trans0 g3
    cases b with
    | false => exact ⟨F3, acc, ys, kw3, r.mono g3.ff, kb.2 rfl⟩
    | true =>
      refine kb.1 rfl e F3 σ2 H3 (st2.grow g3) _ fun y F4 H4 yv ⟨hl, ky⟩ g4 ry => ?_
      have kw4 := kw3.trans0 g4
      have hD : H4 D = some (.lst acc) := (kw4.ow (D, .lst acc) (by simp)).2.1
      exact ⟨acc, hD, by rw [r.len]; exact hl, F4, acc ++ [y], ys ++ [yv], kw4.put (fun _ z => by cases z), (r.mono (g3.ff.trans g4.ff)).append (Reps.one ry), ky⟩
  have key2 := hT v _ H _ key
  rw [ww] at key2
  exact key2
theorem ic_enumT {m : M (Tup α)} (h : We tx Y tl Γ (dTup (d := d)) m) : Ic tx Y (iEnumTB Y.K (tCons tl tNil)) Γ (dPair (d1 := dInt) (d2 := d)) (m >>= fun xs => .ok (M.enumL xs.l)) := fun nb xk β d2 g tt te vs kx hT hb e F σ H s Q q => h.k nb xk (k := fun xs => m = .ok xs) (fun xs e _ _ => e) e F σ H s _ fun v F1 H1 xs hm g1 ⟨a, us, e1, hq, r⟩ => by
  subst e1
  refine ⟨a, us, rfl, (hq.mono g1.fh).sq, fun hz D hD => ?_⟩
  obtain ⟨I, h0, hs, hd⟩ := hb (M.enumL xs.l) (by rw [hm]; rfl) (by rw [M.enumL_len, ← r.len]; exact hz)
  have kw0 : Wk ⟨F1, H1, []⟩ F1 [(D, .lst [])] (upd H1 D (.lst [])) := g1.base.own hD (fun _ z => by cases z)
  have hqT : ∀ {H' : Hp} {F' : Hp}, Same F1 F' → Same F' H' → SqT Y.K H' a us := fun s1 s2 => (hq.mono (s1.trans s2)).sq
  refine ⟨fun i m H => m = us.length - i ∧ i ≤ us.length ∧ ∃ F' acc ys, Wk ⟨F1, H1, []⟩ F' [(D, .lst acc)] H ∧ Reps d2 Y.g F' acc ys ∧ I i ys, ⟨us.length, by simp, Nat.zero_le _, F1, [], [], kw0, trivial, h0⟩, ?_⟩
  rintro i m H ⟨rfl, hi, F', acc, ys, kw, ra, hI⟩
  have hq' := hqT kw.ff kw.fh
  by_cases hlt : i < us.length
  · have hw : us[i]? = some us[i] := by simp [hlt]
    generalize us[i] = w at hw
    obtain ⟨x, hx, rx⟩ := r.getV hw
    refine .inr ⟨⟨us, w, hq', hw⟩, fun H => ∃ F' acc ys, Wk ⟨F1, H1, []⟩ F' [(D, .lst acc)] H ∧ Reps d2 Y.g F' acc ys ∧ I (i + 1) ys, fun H' p' => ⟨us.length - (i + 1), by omega, rfl, hlt, p'⟩, fun x0 H' ⟨T, x', e2, hT0, e3, hall⟩ => ?_⟩
    subst e2 e3
    have ex : x' = w := by
      have := hall us hq'
      rw [hw] at this
      exact (Option.some.inj this).symm
    subst ex
    have kw2 := kw.lay (o := .tup [.int (i : Nat), x']) hT0
    have sm : Same F' (upd F' T (.tup [.int (i : Nat), x'])) := (kw.base.lay (o := .tup [.int (i : Nat), x']) hT0).ff
    exact comp_turn0 (d := dPair (d1 := dInt) (d2 := d)) (x := ((i : Int), x)) (s.grow g1) hT.1 (hs i ((i : Int), x) · (by show (M.enumL _)[i]? = _; rw [← M.enumL_get]; unfold enumI; rw [hx]; rfl)) kw2 (ra.mono sm) hI ⟨T, .int (i : Nat), x', rfl, .inl upd_same, rfl, d.mono (kw.ff.trans sm) rx⟩
  · have hi2 : i = (M.enumL xs.l).length := by rw [M.enumL_len, ← r.len]; omega
    subst hi2
    exact .inl ⟨⟨us, hq', by rw [M.enumL_len, r.len]; exact Nat.le_refl _⟩, q _ F' H _ ys (hd ys hI) (by simpa using g1.trans kw) ⟨D, acc, rfl, rfl, ra⟩⟩
theorem ic_enum {m : M (List α)} (h : We tx Y tl Γ (dList (d := d)) m) : Ic tx Y (iEnumB Y.K (tCons tl tNil)) Γ (dPair (d1 := dInt) (d2 := d)) (m >>= fun xs => .ok (M.enumL xs)) := fun nb xk β d2 g tt te vs kx hT hb e F σ H s Q q => h.k nb xk (k := fun xs => m = .ok xs) (fun xs e _ _ => e) e F σ H s _ fun v F1 H1 xs hm g1 ⟨a, us, e1, hq, r⟩ => by
  subst e1
  refine ⟨a, us, rfl, g1.fh.seq hq, fun hz D hD => ?_⟩
  obtain ⟨I, h0, hs, hd⟩ := hb (M.enumL xs) (by rw [hm]; rfl) (by rw [M.enumL_len, ← r.len]; exact hz)
  have kw0 : Wk ⟨F1, H1, []⟩ F1 [(D, .lst [])] (upd H1 D (.lst [])) := g1.base.own hD (fun _ z => by cases z)
  have hqT : ∀ {H' : Hp} {F' : Hp}, Same F1 F' → Same F' H' → SqL Y.K H' a us := fun s1 s2 => (s1.trans s2).seq hq
  refine ⟨fun i m H => m = us.length - i ∧ i ≤ us.length ∧ ∃ F' acc ys, Wk ⟨F1, H1, []⟩ F' [(D, .lst acc)] H ∧ Reps d2 Y.g F' acc ys ∧ I i ys, ⟨us.length, by simp, Nat.zero_le _, F1, [], [], kw0, trivial, h0⟩, ?_⟩
  rintro i m H ⟨rfl, hi, F', acc, ys, kw, ra, hI⟩
  have hq' := hqT kw.ff kw.fh
  by_cases hlt : i < us.length
  · have hw : us[i]? = some us[i] := by simp [hlt]
    generalize us[i] = w at hw
    obtain ⟨x, hx, rx⟩ := r.getV hw
    refine .inr ⟨⟨us, w, hq', hw⟩, fun H => ∃ F' acc ys, Wk ⟨F1, H1, []⟩ F' [(D, .lst acc)] H ∧ Reps d2 Y.g F' acc ys ∧ I (i + 1) ys, fun H' p' => ⟨us.length - (i + 1), by omega, rfl, hlt, p'⟩, fun x0 H' ⟨T, x', e2, hT0, e3, hall⟩ => ?_⟩
    subst e2 e3
    have ex : x' = w := by
      have := hall us hq'
      rw [hw] at this
      exact (Option.some.inj this).symm
    subst ex
    have kw2 := kw.lay (o := .tup [.int (i : Nat), x']) hT0
    have sm : Same F' (upd F' T (.tup [.int (i : Nat), x'])) := (kw.base.lay (o := .tup [.int (i : Nat), x']) hT0).ff
    exact comp_turn0 (d := dPair (d1 := dInt) (d2 := d)) (x := ((i : Int), x)) (s.grow g1) hT.1 (hs i ((i : Int), x) · (by show (M.enumL _)[i]? = _; rw [← M.enumL_get]; unfold enumI; rw [hx]; rfl)) kw2 (ra.mono sm) hI ⟨T, .int (i : Nat), x', rfl, .inl upd_same, rfl, d.mono (kw.ff.trans sm) rx⟩
  · have hi2 : i = (M.enumL xs).length := by rw [M.enumL_len, ← r.len]; omega
    subst hi2
    exact .inl ⟨⟨us, hq', by rw [M.enumL_len, r.len]; exact Nat.le_refl _⟩, q _ F' H _ ys (hd ys hI) (by simpa using g1.trans kw) ⟨D, acc, rfl, rfl, ra⟩⟩
end
theorem wipeC_get (Γ : List Cell) : ∀ (js : List Nat) (i : Nat), i < Γ.length → i ∈ js → (wipeC Γ js)[i]? = some .no
  | [], _, _, h => nomatch h
  | j :: js, i, hl, h => by
    unfold wipeC
    by_cases e : j = i
    · subst e
      rw [List.getElem?_set_self (by rw [wipeC_len]; exact hl)]
    · rw [List.getElem?_set_ne e]
      exact wipeC_get Γ js i hl ((List.mem_cons.mp h).resolve_left fun z => e z.symm)
/-- where all slots are wiped nothing is left to compare -/
theorem wlen (n : Nat) {Γ Γ' : List Cell} {js : List Nat} (h1 : Γ.length = n) (h2 : Γ'.length = n) (hj : (List.range n).all (fun i => js.contains i) = true) : wipeC Γ js = wipeC Γ' js := by
  apply List.ext_getElem?
  intro i
  by_cases hi : i < n
  · have hm : i ∈ js := by
      have := List.all_eq_true.mp hj i (List.mem_range.mpr hi)
      simpa using this
    rw [wipeC_get Γ js i (by omega) hm, wipeC_get Γ' js i (by omega) hm]
  · rw [List.getElem?_eq_none (by rw [wipeC_len]; omega), List.getElem?_eq_none (by rw [wipeC_len]; omega)]
end G
end

/-! GM: groups of a graph, in plain Lean. -/
namespace G
def Adj (pts : List Int) (ties : List (Int × Int)) (a b : Int) : Prop := a ∈ pts ∧ b ∈ pts ∧ ((a, b) ∈ ties ∨ (b, a) ∈ ties)
theorem Adj.symm {pts : List Int} {ties : List (Int × Int)} {a b : Int} (h : Adj pts ties a b) : Adj pts ties b a := ⟨h.2.1, h.1, h.2.2.symm⟩
inductive Reach (pts : List Int) (ties : List (Int × Int)) : Int → Int → Prop where
  | refl (x : Int) : Reach pts ties x x
  | tail {x y z : Int} (h : Reach pts ties x y) (a : Adj pts ties y z) : Reach pts ties x z
section
variable {pts : List Int} {ties : List (Int × Int)}
theorem Reach.trans {x y z : Int} (h : Reach pts ties x y) (g : Reach pts ties y z) : Reach pts ties x z := by
  induction g with
  | refl => exact h
  | tail _ a ih => exact .tail ih a
theorem Reach.symm {x y : Int} (h : Reach pts ties x y) : Reach pts ties y x := by
  induction h with
  | refl => exact .refl _
  | tail _ a ih => exact (Reach.tail (.refl _) a.symm).trans ih
theorem Reach.mem {x y : Int} (h : Reach pts ties x y) (hx : x ∈ pts) : y ∈ pts := by
  cases h with
  | refl => exact hx
  | tail _ a => exact a.2.1
noncomputable instance decReach {pts : List Int} {ties : List (Int × Int)} {x y : Int} : Decidable (Reach pts ties x y) := Classical.propDecidable _
noncomputable def compOf (pts : List Int) (ties : List (Int × Int)) (p : Int) : List Int := (isort pts).filter fun x => decide (Reach pts ties p x)
def IsMin (pts : List Int) (ties : List (Int × Int)) (p : Int) : Prop := ∀ q ∈ pts, Reach pts ties p q → p ≤ q
noncomputable instance decMin {pts : List Int} {ties : List (Int × Int)} {x : Int} : Decidable (IsMin pts ties x) := Classical.propDecidable _
noncomputable def firsts (pts : List Int) (ties : List (Int × Int)) (xs : List Int) : List Int := xs.filter fun p => decide (IsMin pts ties p)
/-- the groups, ascending, by their lowest points -/
noncomputable def groupsOf (pts : List Int) (ties : List (Int × Int)) : List (List Int) := (firsts pts ties (isort pts)).map (compOf pts ties)
theorem mem_isort {xs : List Int} {x : Int} : x ∈ isort xs ↔ x ∈ xs := (isort_perm xs).mem_iff
theorem isort_nodup {xs : List Int} (h : xs.Nodup) : (isort xs).Nodup := (isort_perm xs).nodup_iff.mpr h
theorem mem_comp {p x : Int} : x ∈ compOf pts ties p ↔ x ∈ pts ∧ Reach pts ties p x := by
  unfold compOf
  rw [List.mem_filter, mem_isort, decide_eq_true_eq]
theorem comp_lt (h : pts.Nodup) (p : Int) : (compOf pts ties p).Pairwise (· < ·) := by
  refine List.Pairwise.filter _ ?_
  have a := isort_pw pts
  have b := isort_nodup h
  exact List.Pairwise.imp₂ (fun x y h1 h2 => by omega) a (List.nodup_iff_pairwise_ne.mp b) |> fun z => z
/-- a list that holds just a group's points is the group, once sorted -/
theorem isort_comp (h : pts.Nodup) {p : Int} {g : List Int} (hn : g.Nodup) (hm : ∀ x, x ∈ g ↔ x ∈ pts ∧ Reach pts ties p x) : isort g = compOf pts ties p := by
  refine (isort_eq ?_ ((comp_lt h p).imp (fun h => by omega))).symm
  have hc : (compOf pts ties p).Nodup := (comp_lt h p).imp (fun h => by omega)
  exact (List.perm_ext_iff_of_nodup hc hn).mpr fun x => by rw [mem_comp, hm]

/-! near -/
theorem lookup_setI {β : Type} : ∀ (kv : List (Int × β)) (n k : Int) (v : β), (setI kv n v).lookup k = if k = n then (kv.lookup n).map (fun _ => v) else kv.lookup k
  | [], n, k, v => by unfold setI; split <;> rfl
  | p :: kv, n, k, v => by
    unfold setI
    by_cases hp : p.1 = n
    · rw [if_pos hp, lookup_cons', lookup_cons', lookup_cons', if_pos hp]
      by_cases hk : k = n
      · rw [if_pos hk, if_pos (hp.trans hk.symm)]; rfl
      · rw [if_neg hk, if_neg (fun z => hk (z.symm.trans hp)), if_neg (fun z => hk (z.symm.trans hp))]
    · rw [if_neg hp, lookup_cons', lookup_cons', lookup_cons', if_neg hp, lookup_setI kv n k v]
      by_cases hk : k = n
      · rw [if_pos hk, if_pos hk, if_neg (fun z => hp (z.trans hk))]
      · rw [if_neg hk, if_neg hk]
structure NearOk (pts : List Int) (ts : List (Int × Int)) (kv : List (Int × List Int)) : Prop where
  has : ∀ k, (kv.lookup k).isSome = true ↔ k ∈ pts
  items : ∀ k xs, kv.lookup k = some xs → (∀ z, z ∈ xs ↔ Adj pts ts k z) ∧ xs.length ≤ 2 * ts.length
theorem adj_append {a b k z : Int} {ts : List (Int × Int)} : Adj pts (ts ++ [(a, b)]) k z ↔ Adj pts ts k z ∨ (k ∈ pts ∧ z ∈ pts ∧ ((k = a ∧ z = b) ∨ (k = b ∧ z = a))) := by
  unfold Adj
  simp only [List.mem_append, List.mem_singleton, Prod.mk.injEq]
  constructor
  · rintro ⟨h1, h2, (h | h) | (h | h)⟩
    · exact .inl ⟨h1, h2, .inl h⟩
    · exact .inr ⟨h1, h2, .inl h⟩
    · exact .inl ⟨h1, h2, .inr h⟩
    · exact .inr ⟨h1, h2, .inr ⟨h.2, h.1⟩⟩
  · rintro (⟨h1, h2, h | h⟩ | ⟨h1, h2, h | h⟩)
    · exact ⟨h1, h2, .inl (.inl h)⟩
    · exact ⟨h1, h2, .inr (.inl h)⟩
    · exact ⟨h1, h2, .inl (.inr h)⟩
    · exact ⟨h1, h2, .inr (.inr ⟨h.2, h.1⟩)⟩
theorem near_skip {ts : List (Int × Int)} {kv : List (Int × List Int)} {a b : Int} (h : NearOk pts ts kv) (hab : ¬ (a ∈ pts ∧ b ∈ pts)) : NearOk pts (ts ++ [(a, b)]) kv := by
  refine ⟨h.has, fun k xs e => ⟨fun z => ?_, ?_⟩⟩
  · rw [(h.items k xs e).1 z, adj_append]
    constructor
    · exact .inl
    · rintro (q | ⟨h1, h2, ⟨rfl, rfl⟩ | ⟨rfl, rfl⟩⟩)
      · exact q
      · exact absurd ⟨h1, h2⟩ hab
      · exact absurd ⟨h2, h1⟩ hab
  · have := (h.items k xs e).2
    rw [List.length_append]
    simp only [List.length_singleton]
    omega
theorem near_step {ts : List (Int × Int)} {kv : List (Int × List Int)} {a b : Int} {xa xb : List Int} (h : NearOk pts ts kv) (ha : a ∈ pts) (hb : b ∈ pts) (ea : kv.lookup a = some xa) (eb : (setI kv a (xa ++ [b])).lookup b = some xb) :
    NearOk pts (ts ++ [(a, b)]) (setI (setI kv a (xa ++ [b])) b (xb ++ [a])) := by
  have l2 : ∀ k, (setI (setI kv a (xa ++ [b])) b (xb ++ [a])).lookup k = if k = b then some (xb ++ [a]) else if k = a then some (xa ++ [b]) else kv.lookup k := by
    intro k
    rw [lookup_setI, eb]
    by_cases hk : k = b
    · rw [if_pos hk, if_pos hk]; rfl
    · rw [if_neg hk, if_neg hk, lookup_setI, ea]
      by_cases hk2 : k = a
      · rw [if_pos hk2, if_pos hk2]; rfl
      · rw [if_neg hk2, if_neg hk2]
  have lb : xb = if b = a then xa ++ [b] else xb := by
    by_cases hba : b = a
    · rw [if_pos hba]
      rw [lookup_setI, if_pos hba, ea] at eb
      exact (Option.some.inj eb).symm
    · rw [if_neg hba]
  have lb2 : b ≠ a → kv.lookup b = some xb := fun hba => by rw [lookup_setI, if_neg hba] at eb; exact eb
  refine ⟨fun k => ?_, fun k xs e => ?_⟩
  · rw [l2 k]
    by_cases hk : k = b
    · rw [if_pos hk]; subst hk; simp [hb]
    · rw [if_neg hk]
      by_cases hk2 : k = a
      · rw [if_pos hk2]; subst hk2; simp [ha]
      · rw [if_neg hk2]; exact h.has k
  · rw [l2 k] at e
    have len : (ts ++ [(a, b)]).length = ts.length + 1 := by simp
    by_cases hk : k = b
    · rw [if_pos hk] at e
      cases (Option.some.inj e)
      subst hk
      by_cases hba : k = a
      · rw [if_pos hba] at lb
        subst hba
        have q := h.items k xa ea
        refine ⟨fun z => ?_, ?_⟩
        · rw [lb, adj_append, ← q.1 z]
          simp only [List.mem_append, List.mem_singleton]
          constructor
          · rintro ((h | h) | h)
            · exact .inl h
            · exact .inr ⟨hb, by rw [h]; exact hb, .inl ⟨trivial, h⟩⟩
            · exact .inr ⟨hb, by rw [h]; exact hb, .inl ⟨trivial, h⟩⟩
          · rintro (h | ⟨_, _, ⟨_, h⟩ | ⟨_, h⟩⟩)
            · exact .inl (.inl h)
            · exact .inr h
            · exact .inr h
        · rw [lb, len]; simp only [List.length_append, List.length_singleton]; omega
      · have q := h.items k xb (lb2 hba)
        refine ⟨fun z => ?_, ?_⟩
        · rw [adj_append, ← q.1 z]
          simp only [List.mem_append, List.mem_singleton]
          constructor
          · rintro (h | h)
            · exact .inl h
            · exact .inr ⟨hb, by rw [h]; exact ha, .inr ⟨trivial, h⟩⟩
          · rintro (h | ⟨_, _, ⟨h, _⟩ | ⟨_, h⟩⟩)
            · exact .inl h
            · exact absurd h hba
            · exact .inr h
        · rw [len]; simp only [List.length_append, List.length_singleton]; omega
    · rw [if_neg hk] at e
      by_cases hk2 : k = a
      · rw [if_pos hk2] at e
        cases (Option.some.inj e)
        subst hk2
        have q := h.items k xa ea
        refine ⟨fun z => ?_, ?_⟩
        · rw [adj_append, ← q.1 z]
          simp only [List.mem_append, List.mem_singleton]
          constructor
          · rintro (h | h)
            · exact .inl h
            · exact .inr ⟨ha, by rw [h]; exact hb, .inl ⟨trivial, h⟩⟩
          · rintro (h | ⟨_, _, ⟨_, h⟩ | ⟨h, _⟩⟩)
            · exact .inl h
            · exact .inr h
            · exact absurd h hk
        · rw [len]; simp only [List.length_append, List.length_singleton]; omega
      · rw [if_neg hk2] at e
        have q := h.items k xs e
        refine ⟨fun z => ?_, ?_⟩
        · rw [adj_append, ← q.1 z]
          constructor
          · exact .inl
          · rintro (h | ⟨_, _, ⟨h, _⟩ | ⟨h, _⟩⟩)
            · exact h
            · exact absurd h hk2
            · exact absurd h hk
        · rw [len]; omega

theorem lookup_none_of {β : Type} {kv : List (Int × β)} {k : Int} (h : ∀ p ∈ kv, p.1 ≠ k) : kv.lookup k = none := by
  induction kv with
  | nil => rfl
  | cons p kv ih =>
    rw [lookup_cons', if_neg (h p List.mem_cons_self)]
    exact ih fun q hq => h q (List.mem_cons_of_mem _ hq)
theorem lookup_map_nil {k : Int} : ∀ (xs : List Int), (xs.map fun k => (k, ([] : List Int))).lookup k = if k ∈ xs then some [] else none
  | [] => rfl
  | x :: xs => by
    rw [List.map_cons, lookup_cons', lookup_map_nil xs]
    by_cases hx : x = k
    · rw [if_pos hx, if_pos (by rw [hx]; exact List.mem_cons_self)]
    · rw [if_neg hx]
      by_cases hk : k ∈ xs
      · rw [if_pos hk, if_pos (List.mem_cons_of_mem _ hk)]
      · rw [if_neg hk, if_neg (fun z => (List.mem_cons.mp z).elim (fun z => hx z.symm) hk)]
theorem near_start (_h : pts.Nodup) : NearOk pts [] (pts.map fun k => (k, [])) := by
  refine ⟨fun k => ?_, fun k xs e => ?_⟩
  · rw [lookup_map_nil]
    by_cases hk : k ∈ pts
    · rw [if_pos hk]; simp [hk]
    · rw [if_neg hk]; simp [hk]
  · rw [lookup_map_nil] at e
    by_cases hk : k ∈ pts
    · rw [if_pos hk] at e
      cases e
      exact ⟨fun z => ⟨fun h => (nomatch h), fun h => by rcases h.2.2 with h | h <;> cases h⟩, Nat.zero_le _⟩
    · rw [if_neg hk] at e; cases e

/-! the search -/
/-- what holds while the group of p is searched: s0 is what was seen ahead of it -/
structure Dfs (pts : List Int) (ties : List (Int × Int)) (s0 : List Int) (p : Int) (seen group waiting : List Int) : Prop where
  nd : (group ++ waiting).Nodup
  sn : seen.Nodup
  mem : ∀ x, x ∈ seen ↔ x ∈ s0 ∨ x ∈ group ++ waiting
  re : ∀ x ∈ group ++ waiting, Reach pts ties p x ∧ x ∈ pts
  clo : ∀ x ∈ group, ∀ z, Adj pts ties x z → z ∈ seen
  st : p ∈ group ++ waiting
  /-- what is seen is of the points -/
  sub : ∀ x ∈ seen, x ∈ pts
theorem len_le {α : Type} [DecidableEq α] : ∀ {xs pts : List α}, xs.Nodup → (∀ x ∈ xs, x ∈ pts) → xs.length ≤ pts.length
  | [], _, _, _ => Nat.zero_le _
  | x :: xs, pts, h, hs => by
    have hx := hs x List.mem_cons_self
    have h1 := List.nodup_cons.mp h
    have ih := len_le (xs := xs) (pts := pts.erase x) h1.2 fun y hy => (List.mem_erase_of_ne (fun z => h1.1 (by rw [← z]; exact hy))).mpr (hs y (List.mem_cons_of_mem _ hy))
    have hl := List.length_erase_of_mem hx
    have hp := List.length_pos_of_mem hx
    simp only [List.length_cons]
    omega
/-- one neighbour more -/
theorem Dfs.push {s0 seen group waiting : List Int} {p m z : Int} (h : Dfs pts ties s0 p seen group waiting) (hm : m ∈ group) (a : Adj pts ties m z) (hz : z ∉ seen) :
    Dfs pts ties s0 p (seen ++ [z]) group (waiting ++ [z]) := by
  have h1 : z ∉ s0 := fun q => hz ((h.mem z).mpr (.inl q))
  have h2 : z ∉ group ++ waiting := fun q => hz ((h.mem z).mpr (.inr q))
  have hr := h.re m (List.mem_append_left _ hm)
  refine ⟨?_, ?_, fun x => ?_, fun x hx => ?_, fun x hx y ay => ?_, ?_, fun x hx => ?_⟩
  · rw [← List.append_assoc]
    refine List.nodup_append.mpr ⟨h.nd, by simp, fun x hx y hy e => ?_⟩
    rw [List.mem_singleton] at hy
    subst e hy
    exact h2 hx
  · refine List.nodup_append.mpr ⟨h.sn, by simp, fun x hx y hy e => ?_⟩
    rw [List.mem_singleton] at hy
    subst e hy
    exact hz hx
  · rw [← List.append_assoc, List.mem_append, List.mem_append, h.mem x, or_assoc]
  · rw [← List.append_assoc, List.mem_append, List.mem_singleton] at hx
    rcases hx with hx | rfl
    · exact h.re x hx
    · exact ⟨.tail hr.1 a, a.2.1⟩
  · exact List.mem_append_left _ (h.clo x hx y ay)
  · rw [← List.append_assoc]; exact List.mem_append_left _ h.st
  · rcases List.mem_append.mp hx with hx | hx
    · exact h.sub x hx
    · rw [List.mem_singleton] at hx; subst hx; exact a.2.1
/-- .. in the midst of the neighbours of m, which the group holds: done are those that were looked at -/
structure Dfs2 (pts : List Int) (ties : List (Int × Int)) (s0 : List Int) (p : Int) (seen group waiting : List Int) (m : Int) (done : List Int) : Prop where
  nd : (group ++ waiting).Nodup
  sn : seen.Nodup
  mem : ∀ x, x ∈ seen ↔ x ∈ s0 ∨ x ∈ group ++ waiting
  re : ∀ x ∈ group ++ waiting, Reach pts ties p x ∧ x ∈ pts
  clo : ∀ x ∈ group, x ≠ m → ∀ z, Adj pts ties x z → z ∈ seen
  st : p ∈ group ++ waiting
  sub : ∀ x ∈ seen, x ∈ pts
  hm : m ∈ group
  dn : ∀ z ∈ done, z ∈ seen
theorem Dfs.take {s0 seen group ws : List Int} {p m : Int} (h : Dfs pts ties s0 p seen group (ws ++ [m])) : Dfs2 pts ties s0 p seen (group ++ [m]) ws m [] := by
  have hp : ((group ++ [m]) ++ ws).Perm (group ++ (ws ++ [m])) := by
    rw [List.append_assoc]
    exact List.Perm.append_left _ List.perm_append_comm
  refine ⟨hp.nodup_iff.mpr h.nd, h.sn, fun x => by rw [h.mem x, hp.mem_iff], fun x hx => h.re x (hp.mem_iff.mp hx), fun x hx hne z a => ?_, hp.mem_iff.mpr h.st, h.sub, by simp, fun z hz => (nomatch hz)⟩
  rcases List.mem_append.mp hx with hx | hx
  · exact h.clo x hx z a
  · exact absurd (List.mem_singleton.mp hx) hne
theorem Dfs2.push {s0 seen group waiting dn : List Int} {p m z : Int} (h : Dfs2 pts ties s0 p seen group waiting m dn) (a : Adj pts ties m z) (hz : z ∉ seen) : Dfs2 pts ties s0 p (seen ++ [z]) group (waiting ++ [z]) m (dn ++ [z]) := by
  have h2 : z ∉ group ++ waiting := fun q => hz ((h.mem z).mpr (.inr q))
  refine ⟨?_, nodup_snoc h.sn hz, fun x => ?_, fun x hx => ?_, fun x hx hne y ay => List.mem_append_left _ (h.clo x hx hne y ay), ?_, fun x hx => ?_, h.hm, fun x hx => ?_⟩
  · rw [← List.append_assoc]; exact nodup_snoc h.nd h2
  · rw [← List.append_assoc, List.mem_append, List.mem_append, h.mem x, or_assoc]
  · rw [← List.append_assoc, List.mem_append, List.mem_singleton] at hx
    rcases hx with hx | rfl
    · exact h.re x hx
    · exact ⟨.tail (h.re m (List.mem_append_left _ h.hm)).1 a, a.2.1⟩
  · rw [← List.append_assoc]; exact List.mem_append_left _ h.st
  · rcases List.mem_append.mp hx with hx | hx
    · exact h.sub x hx
    · rw [List.mem_singleton] at hx; subst hx; exact a.2.1
  · rcases List.mem_append.mp hx with hx | hx
    · exact List.mem_append_left _ (h.dn x hx)
    · exact List.mem_append_right _ hx
theorem Dfs2.skip {s0 seen group waiting dn : List Int} {p m z : Int} (h : Dfs2 pts ties s0 p seen group waiting m dn) (hz : z ∈ seen) : Dfs2 pts ties s0 p seen group waiting m (dn ++ [z]) :=
  ⟨h.nd, h.sn, h.mem, h.re, h.clo, h.st, h.sub, h.hm, fun x hx => by
    rcases List.mem_append.mp hx with hx | hx
    · exact h.dn x hx
    · rw [List.mem_singleton] at hx; subst hx; exact hz⟩
theorem Dfs2.back {s0 seen group waiting dn : List Int} {p m : Int} (h : Dfs2 pts ties s0 p seen group waiting m dn) (hd : ∀ z, Adj pts ties m z → z ∈ dn) : Dfs pts ties s0 p seen group waiting :=
  ⟨h.nd, h.sn, h.mem, h.re, fun x hx z a => by
    by_cases e : x = m
    · subst e; exact h.dn z (hd z a)
    · exact h.clo x hx e z a, h.st, h.sub⟩
/-- the search is over -/
theorem Dfs.done {s0 seen group : List Int} {p : Int} (h : Dfs pts ties s0 p seen group []) (h0 : ∀ x y, x ∈ s0 → Reach pts ties x y → y ∈ s0) (hp : p ∉ s0) (x : Int) : x ∈ group ↔ x ∈ pts ∧ Reach pts ties p x := by
  have hg : ∀ y, y ∈ group ++ [] ↔ y ∈ group := fun y => by simp
  constructor
  · intro hx
    have := h.re x ((hg x).mpr hx)
    exact ⟨this.2, this.1⟩
  · rintro ⟨hx, hr⟩
    clear hx
    induction hr with
    | refl => exact (hg p).mp h.st
    | @tail y z hy a ih =>
      have := (h.mem z).mp (h.clo y ih z a)
      rcases this with q | q
      · exact absurd (h0 z p q (Reach.tail hy a).symm) hp
      · exact (hg z).mp q
/-- what has been seen behind the points xs -/
structure Seen (pts : List Int) (ties : List (Int × Int)) (xs seen : List Int) : Prop where
  nd : seen.Nodup
  mem : ∀ x, x ∈ seen ↔ x ∈ pts ∧ ∃ q ∈ xs, Reach pts ties q x
theorem Seen.clo {xs seen : List Int} (h : Seen pts ties xs seen) (x y : Int) (hx : x ∈ seen) (hr : Reach pts ties x y) : y ∈ seen := by
  obtain ⟨h1, q, hq, h2⟩ := (h.mem x).mp hx
  exact (h.mem y).mpr ⟨hr.mem h1, q, hq, h2.trans hr⟩
theorem Seen.start {xs seen : List Int} {p : Int} (h : Seen pts ties xs seen) (hp : p ∈ pts) (hn : p ∉ seen) : Dfs pts ties seen p (seen ++ [p]) [] [p] := by
  refine ⟨by simp, ?_, fun x => by simp, fun x hx => ?_, fun x hx => (nomatch hx), by simp, fun x hx => ?_⟩
  · refine List.nodup_append.mpr ⟨h.nd, by simp, fun x hx y hy e => ?_⟩
    rw [List.mem_singleton] at hy
    subst e hy
    exact hn hx
  · have e : x = p := by simpa using hx
    subst e
    exact ⟨.refl _, hp⟩
  · rcases List.mem_append.mp hx with hx | hx
    · exact ((h.mem x).mp hx).1
    · rw [List.mem_singleton] at hx; subst hx; exact hp
theorem Seen.next {xs seen seen' group : List Int} {p : Int} (h : Seen pts ties xs seen) (hn : p ∉ seen) (hd : Dfs pts ties seen p seen' group []) : Seen pts ties (xs ++ [p]) seen' := by
  refine ⟨hd.sn, fun x => ?_⟩
  have q := hd.done (fun a b => h.clo a b) hn x
  rw [hd.mem x, List.append_nil, q, h.mem x]
  constructor
  · rintro (⟨h1, y, hy, h2⟩ | ⟨h1, h2⟩)
    · exact ⟨h1, y, List.mem_append_left _ hy, h2⟩
    · exact ⟨h1, p, by simp, h2⟩
  · rintro ⟨h1, y, hy, h2⟩
    rcases List.mem_append.mp hy with hy | hy
    · exact .inl ⟨h1, y, hy, h2⟩
    · rw [List.mem_singleton] at hy; subst hy; exact .inr ⟨h1, h2⟩
theorem Seen.skip {xs seen : List Int} {p : Int} (h : Seen pts ties xs seen) (hp : p ∈ seen) : Seen pts ties (xs ++ [p]) seen := by
  refine ⟨h.nd, fun x => ?_⟩
  rw [h.mem x]
  constructor
  · rintro ⟨h1, y, hy, h2⟩
    exact ⟨h1, y, List.mem_append_left _ hy, h2⟩
  · rintro ⟨h1, y, hy, h2⟩
    rcases List.mem_append.mp hy with hy | hy
    · exact ⟨h1, y, hy, h2⟩
    · rw [List.mem_singleton] at hy
      subst hy
      obtain ⟨_, q, hq, h3⟩ := (h.mem y).mp hp
      exact ⟨h1, q, hq, h3.trans h2⟩
/-- of sorted points -/
theorem sorted_before {xs : List Int} {i : Nat} {p q : Int} (hs : xs.Pairwise (· < ·)) (hi : xs[i]? = some p) (hq : q ∈ xs) : q ∈ xs.take i ↔ q < p := by
  obtain ⟨hlt, e⟩ := List.getElem?_eq_some_iff.mp hi
  constructor
  · intro h
    obtain ⟨j, hj, e2⟩ := List.mem_take_iff_getElem.mp h
    have := List.pairwise_iff_getElem.mp hs j i (by omega) hlt (by omega)
    rw [e, e2] at this
    exact this
  · intro h
    obtain ⟨j, hj, e2⟩ := List.mem_iff_getElem.mp hq
    have hji : j < i := by
      rcases Nat.lt_trichotomy j i with h1 | h1 | h1
      · exact h1
      · subst h1; rw [e] at e2; omega
      · have := List.pairwise_iff_getElem.mp hs i j hlt hj h1
        rw [e, e2] at this
        omega
    exact List.mem_take_iff_getElem.mpr ⟨j, by omega, e2⟩
theorem isort_lt (h : pts.Nodup) : (isort pts).Pairwise (· < ·) :=
  List.Pairwise.imp₂ (fun x y h1 h2 => by omega) (isort_pw pts) (List.nodup_iff_pairwise_ne.mp (isort_nodup h))
theorem min_iff (h : pts.Nodup) {i : Nat} {p : Int} {seen : List Int} (hi : (isort pts)[i]? = some p) (hs : Seen pts ties ((isort pts).take i) seen) : IsMin pts ties p ↔ p ∉ seen := by
  have hm : p ∈ pts := mem_isort.mp (List.mem_of_getElem? hi)
  constructor
  · intro hmin hp
    obtain ⟨_, q, hq, hr⟩ := (hs.mem p).mp hp
    have hq2 := List.mem_of_mem_take hq
    have h1 := (sorted_before (isort_lt h) hi hq2).mp hq
    have h2 := hmin q (mem_isort.mp hq2) hr.symm
    omega
  · intro hp q hq hr
    by_cases hlt : q < p
    · exact absurd ((hs.mem p).mpr ⟨hm, q, (sorted_before (isort_lt h) hi (mem_isort.mpr hq)).mpr hlt, hr.symm⟩) hp
    · omega
theorem firsts_take (i : Nat) {p : Int} {xs : List Int} (hi : xs[i]? = some p) : (IsMin pts ties p → firsts pts ties (xs.take (i + 1)) = firsts pts ties (xs.take i) ++ [p]) ∧ (¬ IsMin pts ties p → firsts pts ties (xs.take (i + 1)) = firsts pts ties (xs.take i)) := by
  unfold firsts
  rw [getElem?_filterTake _ xs hi]
  constructor
  · intro h; rw [if_pos (by simpa using h)]
  · intro h; rw [if_neg (by simpa using h), List.append_nil]

/-! groups hang together -/
def Conn (g : List Int) (ts : List (Int × Int)) : Prop := ∀ R : Int → Prop, (∀ x, g[0]? = some x → R x) → (∀ a b, (a, b) ∈ ts → (R a → b ∈ g → R b) ∧ (R b → a ∈ g → R a)) → ∀ x ∈ g, R x
/-- .. and are not parted -/
theorem comp_clo {p a b : Int} (h : Adj pts ties a b) : a ∈ compOf pts ties p ↔ b ∈ compOf pts ties p := by
  rw [mem_comp, mem_comp]
  exact ⟨fun q => ⟨h.2.1, .tail q.2 h⟩, fun q => ⟨h.1, .tail q.2 h.symm⟩⟩
theorem mem_firsts {xs : List Int} {p : Int} : p ∈ firsts pts ties xs ↔ p ∈ xs ∧ IsMin pts ties p := by
  unfold firsts
  rw [List.mem_filter, decide_eq_true_eq]
theorem comp_first (hn : pts.Nodup) {p : Int} (hp : p ∈ pts) (hm : IsMin pts ties p) : (compOf pts ties p)[0]? = some p := by
  have hmem : p ∈ compOf pts ties p := mem_comp.mpr ⟨hp, .refl _⟩
  have hlt := comp_lt (ties := ties) hn p
  cases hc : compOf pts ties p with
  | nil => rw [hc] at hmem; cases hmem
  | cons y ys =>
    rw [hc] at hmem hlt
    have hy : y ∈ pts ∧ Reach pts ties p y := mem_comp.mp (by rw [hc]; exact List.mem_cons_self)
    have h1 := hm y hy.1 hy.2
    rcases List.mem_cons.mp hmem with e | e
    · rw [e]; rfl
    · have := (List.pairwise_cons.mp hlt).1 p e
      omega
theorem comp_conn (hn : pts.Nodup) {p : Int} (hp : p ∈ pts) (hm : IsMin pts ties p) : Conn (compOf pts ties p) ties := by
  intro R h0 hc x hx
  have hr := (mem_comp.mp hx).2
  clear hx
  induction hr with
  | refl => exact h0 p (comp_first hn hp hm)
  | @tail y z hy a ih =>
    have hym : y ∈ compOf pts ties p := mem_comp.mpr ⟨hy.mem hp, hy⟩
    have hzm : z ∈ compOf pts ties p := (comp_clo a).mp hym
    rcases a.2.2 with h | h
    · exact (hc y z h).1 ih hzm
    · exact (hc z y h).2 ih hzm
/-- what each group is -/
theorem groups_at (hn : pts.Nodup) {g : List Int} (h : g ∈ groupsOf pts ties) : ∃ p ∈ pts, IsMin pts ties p ∧ g = compOf pts ties p := by
  obtain ⟨p, hp, rfl⟩ := List.mem_map.mp h
  obtain ⟨h1, h2⟩ := mem_firsts.mp hp
  exact ⟨p, mem_isort.mp h1, h2, rfl⟩
theorem groups_lt (hn : pts.Nodup) {g : List Int} (h : g ∈ groupsOf pts ties) : g.Pairwise (· < ·) := by
  obtain ⟨p, _, _, rfl⟩ := groups_at hn h
  exact comp_lt hn p
/-- each point is in one group, the group of one lowest point -/
theorem exists_min (hn : pts.Nodup) {x : Int} (hx : x ∈ pts) : ∃ p ∈ pts, IsMin pts ties p ∧ Reach pts ties p x := by
  have key : ∀ (n : Nat) (y : Int), y ∈ pts → Reach pts ties y x → (pts.filter fun z => decide (z < y)).length ≤ n → ∃ p ∈ pts, IsMin pts ties p ∧ Reach pts ties p x := by
    intro n
    induction n with
    | zero =>
      intro y hy hr hl
      refine ⟨y, hy, fun q hq hrq => ?_, hr⟩
      by_cases hlt : q < y
      · have : q ∈ pts.filter fun z => decide (z < y) := List.mem_filter.mpr ⟨hq, by simpa using hlt⟩
        have := List.length_pos_of_mem this
        omega
      · omega
    | succ n ih =>
      intro y hy hr hl
      by_cases hm : IsMin pts ties y
      · exact ⟨y, hy, hm, hr⟩
      · have : ∃ q ∈ pts, Reach pts ties y q ∧ q < y := by
          apply Classical.byContradiction
          intro z
          refine hm fun q hq hrq => ?_
          by_cases hlt : q < y
          · exact absurd ⟨q, hq, hrq, hlt⟩ z
          · omega
        obtain ⟨q, hq, hrq, hlt⟩ := this
        refine ih q hq (hrq.symm.trans hr) ?_
        have h1 : (pts.filter fun z => decide (z < q)).length < (pts.filter fun z => decide (z < y)).length := by
          have hsub : ∀ z ∈ q :: pts.filter (fun z => decide (z < q)), z ∈ pts.filter fun z => decide (z < y) := by
            intro z hz
            rcases List.mem_cons.mp hz with e | hz
            · subst e; exact List.mem_filter.mpr ⟨hq, by simpa using hlt⟩
            · obtain ⟨h1, h2⟩ := List.mem_filter.mp hz
              have h3 : z < q := by simpa using h2
              exact List.mem_filter.mpr ⟨h1, by simp; omega⟩
          have hnd : (q :: pts.filter (fun z => decide (z < q))).Nodup := List.nodup_cons.mpr ⟨fun z => by simpa using (List.mem_filter.mp z).2, List.Sublist.nodup List.filter_sublist hn⟩
          have := len_le hnd hsub
          simp only [List.length_cons] at this
          omega
        omega
  exact key _ x hx (.refl _) (Nat.le_refl _)
theorem min_unique {p q x : Int} (hp : p ∈ pts) (hq : q ∈ pts) (hmp : IsMin pts ties p) (hmq : IsMin pts ties q) (h1 : Reach pts ties p x) (h2 : Reach pts ties q x) : p = q := by
  have a := hmp q hq (h1.trans h2.symm)
  have b := hmq p hp (h2.trans h1.symm)
  omega
theorem filter_one {α : Type} [DecidableEq α] {xs : List α} {x : α} (hn : xs.Nodup) (hx : x ∈ xs) (f : α → Bool) (h : ∀ y ∈ xs, f y = true ↔ y = x) : xs.filter f = [x] := by
  induction xs with
  | nil => cases hx
  | cons y ys ih =>
    have hc := List.nodup_cons.mp hn
    by_cases e : y = x
    · subst e
      rw [List.filter_cons_of_pos ((h y List.mem_cons_self).mpr rfl)]
      have : ys.filter f = [] := List.filter_eq_nil_iff.mpr fun z hz q => hc.1 (by rw [← (h z (List.mem_cons_of_mem _ hz)).mp q]; exact hz)
      rw [this]
    · rw [List.filter_cons_of_neg (fun q => e ((h y List.mem_cons_self).mp q))]
      refine ih hc.2 ?_ fun z hz => h z (List.mem_cons_of_mem _ hz)
      rcases List.mem_cons.mp hx with q | q
      · exact absurd q.symm e
      · exact q
theorem groups_one (hn : pts.Nodup) {x : Int} (hx : x ∈ pts) : ((groupsOf pts ties).filter fun g => decide (x ∈ g)).length = 1 := by
  obtain ⟨p, hp, hm, hr⟩ := exists_min (ties := ties) hn hx
  unfold groupsOf
  rw [List.filter_map, List.length_map]
  have hnf : (firsts pts ties (isort pts)).Nodup := List.Sublist.nodup List.filter_sublist (isort_nodup hn)
  rw [filter_one hnf (x := p) (mem_firsts.mpr ⟨mem_isort.mpr hp, hm⟩)]
  · rfl
  · intro q hq
    obtain ⟨hq1, hq2⟩ := mem_firsts.mp hq
    simp only [Function.comp, decide_eq_true_eq]
    rw [mem_comp]
    exact ⟨fun z => (min_unique hp (mem_isort.mp hq1) hm hq2 hr z.2).symm, fun z => by subst z; exact ⟨hx, hr⟩⟩
/-- the lowest points ascend -/
theorem firsts_lt (hn : pts.Nodup) : (firsts pts ties (isort pts)).Pairwise (· < ·) := List.Pairwise.filter _ (isort_lt hn)
end
end G

/-! PM: models of the helpers that the laws share, and of the program (printed by gen3.py). -/
namespace PM
open PySem L2 G
/-- _law_cell -/
noncomputable def l_cell_m (script : (Sq Int)) (k : Int) : M Int :=
  if (decide (k < (script.l.length : Int))) then
  (M.ix script.l k)
else
  (M.ok (0 : Int))
/-- _law_draws -/
noncomputable def l_draws_m (cell_here : Int) (many : Int) : M (List Int) :=
  (M.ok (if cell_here < 0 then -cell_here else cell_here)) >>= fun rest_1 =>
  (M.ok (decide ((1000000000000000000 : Int) ≤ rest_1))) >>= fun exact_2 =>
  (M.ok ((rest_1 % (2147483629 : Int)) + (17 : Int))) >>= fun mixed_3 =>
  (M.ok ([] : (List Int))) >>= fun draws_here_4 =>
  (M.range many) >>= fun l12 =>
  M.fold (fun (s5 : (Int × Int × (List Int))) x6 =>
    (M.ok ((((s5.2.1 * (48271 : Int)) + ((9973 : Int) * x6)) + (11 : Int)) % (2147483647 : Int))) >>= fun mixed_7 =>
      if (exact_2 && (decide ((0 : Int) < s5.1))) then
      M.push s5.2.2 (M.ok (s5.1 % (60 : Int))) >>= fun draws_here_8 =>
        (M.ok (s5.1 / (60 : Int))) >>= fun rest_9 =>
        M.ok (rest_9, mixed_7, draws_here_8)
    else
      M.push s5.2.2 (M.ok ((mixed_7 / (13 : Int)) % (60 : Int))) >>= fun draws_here_10 =>
        M.ok (s5.1, mixed_7, draws_here_10)) (rest_1, mixed_3, draws_here_4) l12 >>= fun (s11 : (Int × Int × (List Int))) =>
  M.ok s11.2.2
/-- _law_pick -/
noncomputable def l_pick_m (draws_here : (List Int)) (k : Int) (many : Int) : M Int :=
  if ((decide (many < (2 : Int))) || (decide ((draws_here.length : Int) = (0 : Int)))) then
  (M.ok (0 : Int))
else
  (((M.asrt (0 < (draws_here.length : Int)) (.ok (k % (draws_here.length : Int)))) >>= fun t1 => (M.ix draws_here t1)) >>= fun t2 => (M.asrt (0 < many) (.ok (t2 % many))))
/-- _law_web -/
noncomputable def l_web_m (draws_here : (List Int)) (most_places : Int) (most_ties : Int) : M ((List Int) × (List (T4 Int Int Int Int))) :=
  (M.ok [(2 : Int), (2 : Int), (3 : Int), (2 : Int), (1 : Int), (4 : Int)]) >>= fun menu_1 =>
  (l_pick_m draws_here (0 : Int) (most_places + (1 : Int))) >>= fun many_2 =>
  ((M.range many_2) >>= M.comp (fun _ => (M.ok true)) (fun x3 => ((l_pick_m draws_here ((2 : Int) + x3) (6 : Int)) >>= fun t4 => (M.ix menu_1 t4)))) >>= fun sides_5 =>
  (M.ok ([] : (List (T4 Int Int Int Int)))) >>= fun ties_6 =>
  ((l_pick_m draws_here (1 : Int) (most_ties + (1 : Int))) >>= fun t8 => (M.range t8)) >>= fun l19 =>
  M.fold (fun (s7 : (List (T4 Int Int Int Int))) x9 =>
    if (decide ((0 : Int) < many_2)) then
      (M.ok (((2 : Int) + many_2) + ((4 : Int) * x9))) >>= fun at__10 =>
        (l_pick_m draws_here at__10 many_2) >>= fun one_11 =>
        (l_pick_m draws_here (at__10 + (2 : Int)) many_2) >>= fun other_12 =>
        ((M.ix sides_5 one_11) >>= fun t13 => (l_pick_m draws_here (at__10 + (1 : Int)) t13)) >>= fun side_14 =>
        M.push s7 (((M.ix sides_5 other_12) >>= fun t15 => (l_pick_m draws_here (at__10 + (3 : Int)) t15)) >>= fun t16 => (M.ok ⟨one_11, side_14, other_12, t16⟩)) >>= fun ties_17 =>
        M.ok ties_17
    else
      M.ok s7) ties_6 l19 >>= fun (s18 : (List (T4 Int Int Int Int))) =>
  (M.ok (sides_5, s18))
/-- check_end -/
noncomputable def p_check_end_m (sides : (List Int)) (place : Int) (side : Int) : M Unit :=
  if ((decide (place < (0 : Int))) || (decide ((sides.length : Int) ≤ place))) then
  M.raise1 .UnknownPlace "place" (M.ok place)
else
  (if (decide (side < (0 : Int))) then .ok true else ((M.ix sides place) >>= fun t1 => (M.ok (decide (t1 ≤ side))))) >>= fun b2 => if b2 then
    M.raise2 .UnknownSide "place" "side" (M.ok place) (M.ok side)
  else
    M.ok ()
/-- Web.__init__ -/
noncomputable def m_WebX_initX_m (sides : (List Int)) (ties : (List (T4 Int Int Int Int))) : M WebM :=
  if (decide ((200 : Int) < (sides.length : Int))) then
  M.raise1 .TooLarge "limit" (M.ok (200 : Int))
else
  if (decide ((300 : Int) < (ties.length : Int))) then
    M.raise1 .TooLarge "limit" (M.ok (300 : Int))
  else
    (M.ok (M.enumL sides)) >>= fun l12 =>
      M.fold (fun (_ : Unit) x2 =>
        if ((decide (x2.2 < (1 : Int))) || (decide ((4 : Int) < x2.2))) then
          M.raise1 .BadSides "place" (M.ok x2.1)
        else
          M.ok ()) () l12 >>= fun (_ : Unit) =>
      (M.ok ties) >>= fun l11 =>
      M.fold (fun (_ : Unit) x5 =>
        (p_check_end_m sides x5.a x5.b) >>= fun _ =>
          (p_check_end_m sides x5.c x5.d) >>= fun _ =>
          M.ok ()) () l11 >>= fun (_ : Unit) =>
      (M.ok ⟨sides⟩) >>= fun f_7 =>
      ((M.comp (fun _ => (M.ok true)) (fun x8 => (M.ok ⟨x8.a, x8.b, x8.c, x8.d⟩)) ties) >>= fun t9 => (M.ok ⟨t9⟩)) >>= fun f_10 =>
      M.ok ⟨f_7, f_10⟩
/-- Web.back -/
noncomputable def m_Web_back_m (step : (Int × Int)) : M (Int × Int) :=
  (M.ok (step.1, ((1 : Int) - step.2)))
/-- Web.tail -/
noncomputable def m_Web_tail_m (self : WebM) (step : (Int × Int)) : M (Int × Int) :=
  (M.ok step) >>= fun t1 =>
  if ((decide (t1.1 < (0 : Int))) || (decide ((self.b.l.length : Int) ≤ t1.1))) then
  M.raise1 .UnknownTie "tie" (M.ok t1.1)
else
  (M.ix self.b.l t1.1) >>= fun t2 =>
    if (decide (t1.2 = (0 : Int))) then
    (M.ok (t2.a, t2.b))
  else
    (M.ok (t2.c, t2.d))
/-- Web.head -/
noncomputable def m_Web_head_m (self : WebM) (step : (Int × Int)) : M (Int × Int) :=
  ((m_Web_back_m step) >>= fun t1 => (m_Web_tail_m self t1))
/-- Web.__contains__ -/
noncomputable def m_WebX_containsX_m (self : WebM) (place : Int) : M Bool :=
  (M.ok ((decide ((0 : Int) ≤ place)) && (decide (place < (self.a.l.length : Int)))))
/-- Web.steps_from -/
noncomputable def m_Web_steps_from_m (self : WebM) (place : Int) : M (List (Int × Int)) :=
  (M.calm (m_WebX_containsX_m self place) >>= fun b1 => .ok (!b1)) >>= fun b10 => if b10 then
  M.raise1 .UnknownPlace "place" (M.ok place)
else
  (M.ok ([] : (List (Int × Int)))) >>= fun found_2 =>
    (M.ok (M.enumL self.b.l)) >>= fun l9 =>
    M.fold (fun (s3 : (List (Int × Int))) x4 =>
      (if (decide (x4.2.a = place)) then
        M.push s3 (M.ok (x4.1, (0 : Int))) >>= fun found_5 =>
          M.ok found_5
      else
        M.ok s3) >>= (fun s6 : (List (Int × Int)) =>
        if (decide (x4.2.c = place)) then
        M.push s6 (M.ok (x4.1, (1 : Int))) >>= fun found_7 =>
          M.ok found_7
      else
        M.ok s6)) found_2 l9 >>= fun (s8 : (List (Int × Int))) =>
    M.ok s8
/-- followers -/
noncomputable def p_followers_m (web : WebM) (step : (Int × Int)) : M (List (Int × Int)) :=
  (m_Web_head_m web step) >>= fun t1 =>
  ((m_Web_steps_from_m web t1.1) >>= M.comp (fun x2 => (((m_Web_tail_m web x2) >>= fun t3 => (M.ok t3.2)) >>= fun t4 => (M.ok (!decide (t4 = t1.2))))) (fun x2 => (M.ok x2)))
/-- _law_is_number -/
noncomputable def l_is_number_m (told : Int) : M Bool :=
  (M.ok (true && (!false)))
/-- turns -/
noncomputable def p_turns_m (web : WebM) (before : (Int × Int)) (after : (Int × Int)) : M Bool :=
  (((m_Web_head_m web before) >>= fun t1 => (M.ok t1.2)) >>= fun t3 => (((m_Web_tail_m web after) >>= fun t2 => (M.ok t2.2)) >>= fun t4 => (M.ok (!decide (t3 = t4)))))
/-- _law_links -/
noncomputable def l_links_m (draws_here : (List Int)) (most_links : Int) : M (List (Int × Int)) :=
  ((l_pick_m draws_here (0 : Int) most_links) >>= fun t1 => (M.ok ((1 : Int) + t1))) >>= fun many_2 =>
  (M.rangeL 0 ((2 : Int) * many_2)) >>= fun pool_3 =>
  (M.ok ([] : (List Int))) >>= fun row_4 =>
  (M.range ((2 : Int) * many_2)) >>= fun l12 =>
  M.fold (fun (s5 : ((List Int) × (List Int))) x6 =>
    M.appendPop s5.2 s5.1 (l_pick_m draws_here ((1 : Int) + x6) (s5.1.length : Int)) >>= fun p7 =>
      M.ok (p7.2, p7.1)) (pool_3, row_4) l12 >>= fun (s8 : ((List Int) × (List Int))) =>
  ((M.range many_2) >>= M.comp (fun _ => (M.ok true)) (fun x9 => ((M.ix s8.2 ((2 : Int) * x9)) >>= fun t10 => ((M.ix s8.2 (((2 : Int) * x9) + (1 : Int))) >>= fun t11 => (M.ok (t10, t11))))))
/-- _law_any_nodes -/
noncomputable def l_any_nodes_m (draws_here : (List Int)) (at_ : Int) (links_here : (List (Int × Int))) : M (List (T3 PySem.Str Int Int)) :=
  (M.ok ((2 : Int) * (links_here.length : Int))) >>= fun many_1 =>
  (M.rangeL 0 many_1) >>= fun roots_2 =>
  (M.ok ([] : (List (T3 PySem.Str Int Int)))) >>= fun nodes_3 =>
  ((l_pick_m draws_here at_ many_1) >>= fun t5 => (M.range t5)) >>= fun l17 =>
  M.fold (fun (s4 : ((List Int) × (List (T3 PySem.Str Int Int)))) x6 =>
    (M.popAt s4.1 (l_pick_m draws_here ((at_ + (1 : Int)) + ((3 : Int) * x6)) (s4.1.length : Int))) >>= fun p7 =>
      (M.popAt p7.1 (l_pick_m draws_here ((at_ + (2 : Int)) + ((3 : Int) * x6)) (p7.1.length : Int))) >>= fun p8 =>
      (M.ok ("both" : PySem.Str)) >>= fun kind_9 =>
      (((l_pick_m draws_here ((at_ + (3 : Int)) + ((3 : Int) * x6)) (2 : Int)) >>= fun t10 => (M.ok (decide (t10 = (1 : Int))))) >>= fun b15 => if b15 then
      (M.ok ("together" : PySem.Str)) >>= fun kind_11 =>
        M.ok kind_11
    else
      M.ok kind_9) >>= (fun s12 : PySem.Str =>
      M.push s4.2 (M.ok ⟨s12, p7.2, p8.2⟩) >>= fun nodes_13 =>
      M.push p8.1 (M.ok (many_1 + x6)) >>= fun roots_14 =>
      M.ok (roots_14, nodes_13))) (roots_2, nodes_3) l17 >>= fun (s16 : ((List Int) × (List (T3 PySem.Str Int Int)))) =>
  M.ok s16.2
/-- check_links -/
noncomputable def p_check_links_m (links : (List (Int × Int))) : M Unit :=
  (M.ok ((2 : Int) * (links.length : Int))) >>= fun many_1 =>
  (M.ok (⟨[]⟩ : IS)) >>= fun seen_2 =>
  (M.ok (M.enumL links)) >>= fun l11 =>
  M.fold (fun (s3 : IS) x4 =>
    (M.ok [x4.2.1, x4.2.2]) >>= fun l9 =>
      M.fold (fun (s5 : IS) x6 =>
        if ((decide (x6 < (0 : Int))) || ((decide (many_1 ≤ x6)) || (memB x6 s5.l))) then
          M.raise1 .BadLink "link" (M.ok x4.1)
        else
          M.sadd s5 (M.ok x6) >>= fun seen_7 =>
            M.ok seen_7) s3 l9 >>= fun (s8 : IS) =>
      M.ok s8) seen_2 l11 >>= fun (s10 : IS) =>
  M.ok ()
/-- check_nodes -/
noncomputable def p_check_nodes_m (many : Int) (nodes : (List (T3 PySem.Str Int Int))) : M Unit :=
  (M.ok (⟨[]⟩ : IS)) >>= fun seen_1 =>
  (M.ok (M.enumL nodes)) >>= fun l10 =>
  M.fold (fun (s2 : IS) x3 =>
    if (!memB x3.2.a (⟨["both", "together"]⟩ : Tup PySem.Str).l) then
      M.raise1 .BadNode "node" (M.ok x3.1)
    else
      (M.ok [x3.2.b, x3.2.c]) >>= fun l8 =>
        M.fold (fun (s4 : IS) x5 =>
          if ((decide (x5 < (0 : Int))) || ((decide ((many + x3.1) ≤ x5)) || (memB x5 s4.l))) then
            M.raise1 .BadNode "node" (M.ok x3.1)
          else
            M.sadd s4 (M.ok x5) >>= fun seen_6 =>
              M.ok seen_6) s2 l8 >>= fun (s7 : IS) =>
        M.ok s7) seen_1 l10 >>= fun (s9 : IS) =>
  M.ok ()
/-- Wiring.__init__ -/
noncomputable def m_WiringX_initX_m (links : (List (Int × Int))) (nodes : (List (T3 PySem.Str Int Int))) : M WiringM :=
  if (decide ((links.length : Int) = (0 : Int))) then
  M.raise0 .NoLinks
else
  if (decide ((40 : Int) < (links.length : Int))) then
    M.raise1 .TooLarge "limit" (M.ok (40 : Int))
  else
    (p_check_links_m links) >>= fun _ =>
      (p_check_nodes_m ((2 : Int) * (links.length : Int)) nodes) >>= fun _ =>
      ((M.comp (fun _ => (M.ok true)) (fun x1 => (M.ok (x1.1, x1.2))) links) >>= fun t2 => (M.ok ⟨t2⟩)) >>= fun f_3 =>
      ((M.comp (fun _ => (M.ok true)) (fun x4 => (M.ok ⟨x4.a, x4.b, x4.c⟩)) nodes) >>= fun t5 => (M.ok ⟨t5⟩)) >>= fun f_6 =>
      (M.ok (⟨[]⟩ : (DI Int))) >>= fun f_7 =>
      (M.ok (M.enumL f_6.l)) >>= fun l20 =>
      M.fold (fun (s8 : (DI Int)) x9 =>
        M.dput s8 (M.ok x9.2.b) (M.ok x9.1) >>= fun parents_10 =>
          M.dput parents_10 (M.ok x9.2.c) (M.ok x9.1) >>= fun parents_11 =>
          M.ok parents_11) f_7 l20 >>= fun (s12 : (DI Int)) =>
      (M.ok (⟨[]⟩ : (DI Int))) >>= fun f_13 =>
      (M.ok (M.enumL f_3.l)) >>= fun l19 =>
      M.fold (fun (s14 : (DI Int)) x15 =>
        M.dput s14 (M.ok x15.2.1) (M.ok x15.1) >>= fun owners_16 =>
          M.dput owners_16 (M.ok x15.2.2) (M.ok x15.1) >>= fun owners_17 =>
          M.ok owners_17) f_13 l19 >>= fun (s18 : (DI Int)) =>
      M.ok ⟨f_3, f_6, s12, s18⟩
/-- Wiring.leaves -/
noncomputable def m_Wiring_leaves_m (self : WiringM) : M Int :=
  (M.ok ((2 : Int) * (self.a.l.length : Int)))
/-- Wiring.terms -/
noncomputable def m_Wiring_terms_m (self : WiringM) : M Int :=
  ((M.calm (m_Wiring_leaves_m self)) >>= fun t1 => (M.ok (t1 + (self.b.l.length : Int))))
/-- Wiring.__contains__ -/
noncomputable def m_WiringX_containsX_m (self : WiringM) (term : Int) : M Bool :=
  (if (decide ((0 : Int) ≤ term)) then ((M.calm (m_Wiring_terms_m self)) >>= fun t1 => (M.ok (decide (term < t1)))) else .ok false)
/-- Wiring.link_of -/
noncomputable def m_Wiring_link_of_m (self : WiringM) (leaf : Int) : M Int :=
  (if (decide (leaf < (0 : Int))) then .ok true else ((M.calm (m_Wiring_leaves_m self)) >>= fun t1 => (M.ok (decide (t1 ≤ leaf))))) >>= fun b2 => if b2 then
  M.raise1 .UnknownTerm "term" (M.ok leaf)
else
  (M.ofO (self.d.kv.lookup leaf))
/-- place_of -/
noncomputable def p_place_of_m (wiring : WiringM) (term : Int) : M (Int × Int) :=
  (M.calm (m_WiringX_containsX_m wiring term) >>= fun b1 => .ok (!b1)) >>= fun b13 => if b13 then
  M.raise1 .UnknownTerm "term" (M.ok term)
else
  ((M.calm (m_Wiring_leaves_m wiring)) >>= fun t2 => (M.ok (decide (term < t2)))) >>= fun b12 => if b12 then
    (m_Wiring_link_of_m wiring term) >>= fun link_3 =>
      (((M.ix wiring.a.l link_3) >>= fun t4 => (M.ok t4.1)) >>= fun t5 => (M.ok (decide (t5 = term)))) >>= fun b6 => if b6 then
      (M.ok (link_3, (0 : Int)))
    else
      (M.ok (link_3, (1 : Int)))
  else
    ((M.calm (m_Wiring_leaves_m wiring)) >>= fun t7 => (M.ok (term - t7))) >>= fun node_8 =>
      (((M.ix wiring.b.l node_8) >>= fun t9 => (M.ok t9.a)) >>= fun t10 => (M.ok (decide (t10 = ("both" : PySem.Str))))) >>= fun b11 => if b11 then
      (M.ok (((wiring.a.l.length : Int) + node_8), (2 : Int)))
    else
      (M.ok (((wiring.a.l.length : Int) + node_8), (1 : Int)))
/-- web_of_wiring -/
noncomputable def p_web_of_wiring_m (wiring : WiringM) : M WebM :=
  (M.comp (fun _ => (M.ok true)) (fun x1 => (M.ok (2 : Int))) wiring.a.l) >>= fun sides_2 =>
  (M.ok ([] : (List (T4 Int Int Int Int)))) >>= fun ties_3 =>
  (M.ok wiring.b.l) >>= fun l16 =>
  M.fold (fun (s4 : ((List Int) × (List (T4 Int Int Int Int)))) x5 =>
    (M.ok (s4.1.length : Int)) >>= fun place_6 =>
      M.push s4.2 ((p_place_of_m wiring x5.b) >>= fun t7 => (M.ok ⟨t7.1, t7.2, (place_6, (0 : Int)).1, (place_6, (0 : Int)).2⟩)) >>= fun ties_8 =>
      if (decide (x5.a = ("both" : PySem.Str))) then
      M.push ties_8 ((p_place_of_m wiring x5.c) >>= fun t9 => (M.ok ⟨t9.1, t9.2, (place_6, (1 : Int)).1, (place_6, (1 : Int)).2⟩)) >>= fun ties_10 =>
        M.push s4.1 (M.ok (3 : Int)) >>= fun sides_11 =>
        M.ok (sides_11, ties_10)
    else
      M.push ties_8 ((p_place_of_m wiring x5.c) >>= fun t12 => (M.ok ⟨t12.1, t12.2, (place_6, (0 : Int)).1, (place_6, (0 : Int)).2⟩)) >>= fun ties_13 =>
        M.push s4.1 (M.ok (2 : Int)) >>= fun sides_14 =>
        M.ok (sides_14, ties_13)) (sides_2, ties_3) l16 >>= fun (s15 : ((List Int) × (List (T4 Int Int Int Int)))) =>
  (m_WebX_initX_m s15.1 s15.2)
/-- _law_same -/
noncomputable def l_same_step (rec_ : PyData → PyData → M Bool) (told : PyData) (due_here : PyData) : M Bool :=
  if (isNoneU due_here) then
  (M.ok (isNoneU told))
else
  if (isU "bool" due_here) then
    (if (isU "bool" told) then (M.asrt (told.depth ≤ 64 ∧ due_here.depth ≤ 64) (.ok (PyData.eqv told due_here))) else .ok false)
  else
    if (isU "int" due_here) then
      (if (isU "int" told) then (if (!(isU "bool" told)) then (M.asrt (told.depth ≤ 64 ∧ due_here.depth ≤ 64) (.ok (PyData.eqv told due_here))) else .ok false) else .ok false)
    else
      if (isU "str" due_here) then
        (if (isU "str" told) then (M.asrt (told.depth ≤ 64 ∧ due_here.depth ≤ 64) (.ok (PyData.eqv told due_here))) else .ok false)
      else
        if ((isU "list" due_here) && (!(isU "list" told))) then
          (M.ok false)
        else
          if ((isU "tuple" due_here) && (!(isU "tuple" told))) then
            (M.ok false)
          else
            (((M.ofO (itemsU told) >>= fun ds => M.ok (⟨ds⟩ : Sq PyData)) >>= fun t1 => (M.ok (t1.l.length : Int))) >>= fun t3 => (((M.ofO (itemsU due_here) >>= fun ds => M.ok (⟨ds⟩ : Sq PyData)) >>= fun t2 => (M.ok (t2.l.length : Int))) >>= fun t4 => (M.ok (!decide (t3 = t4))))) >>= fun b18 => if b18 then
              (M.ok false)
            else
              (((M.ofO (itemsU due_here) >>= fun ds => M.ok (⟨ds⟩ : Sq PyData)) >>= fun t6 => (M.ok (t6.l.length : Int))) >>= fun t7 => (M.range t7)) >>= fun l17 =>
                M.foldC (fun (_ : Unit) x8 =>
                  ((((M.ofO (itemsU told) >>= fun ds => M.ok (⟨ds⟩ : Sq PyData)) >>= fun t9 => (M.ix t9.l x8)) >>= fun t11 => (((M.ofO (itemsU due_here) >>= fun ds => M.ok (⟨ds⟩ : Sq PyData)) >>= fun t10 => (M.ix t10.l x8)) >>= fun t12 => (rec_ t11 t12))) >>= fun t13 => (M.ok (!t13))) >>= fun b14 => if b14 then
                    (M.ok false) >>= fun r => .ok (.rt r)
                  else
                    M.ok (.nx ())) () l17 >>= fun c16 => Ct.go c16 M.ok fun (_ : Unit) =>
                (M.ok true)
noncomputable def l_same_m : Nat → PyData → PyData → M Bool
  | 0 => fun _ _ => .bad
  | fl + 1 => l_same_step (l_same_m fl)
/-- PairedWeb.__init__ -/
noncomputable def m_PairedWebX_initX_m (pairs : Int) (free : (List (Int × Int))) : M PairedWebM :=
  if (decide ((100 : Int) < pairs)) then
  M.raise1 .TooLarge "limit" (M.ok (100 : Int))
else
  if (decide ((200 : Int) < (free.length : Int))) then
    M.raise1 .TooLarge "limit" (M.ok (200 : Int))
  else
    (M.ok free) >>= fun l12 =>
      M.fold (fun (_ : Unit) x2 =>
        (M.ok [x2.1, x2.2]) >>= fun l6 =>
          M.fold (fun (_ : Unit) x4 =>
            if ((decide (x4 < (0 : Int))) || (decide (((2 : Int) * pairs) ≤ x4))) then
              M.raise1 .UnknownPoint "point" (M.ok x4)
            else
              M.ok ()) () l6 >>= fun (_ : Unit) =>
          M.ok ()) () l12 >>= fun (_ : Unit) =>
      (M.ok pairs) >>= fun f_8 =>
      ((M.comp (fun _ => (M.ok true)) (fun x9 => (M.ok (x9.1, x9.2))) free) >>= fun t10 => (M.ok ⟨t10⟩)) >>= fun f_11 =>
      M.ok ⟨f_8, f_11⟩
/-- PairedWeb.points -/
noncomputable def m_PairedWeb_points_m (self : PairedWebM) : M Int :=
  (M.ok ((2 : Int) * self.a))
/-- PairedWeb.all_ties -/
noncomputable def m_PairedWeb_all_ties_m (self : PairedWebM) : M (Tup (Int × Int)) :=
  ((((M.range self.a) >>= M.comp (fun _ => (M.ok true)) (fun x1 => (M.ok (((2 : Int) * x1), (((2 : Int) * x1) + (1 : Int)))))) >>= fun t2 => (M.ok ⟨t2⟩)) >>= fun t3 => (M.catT t3 self.b))
/-- grouped -/
noncomputable def p_grouped_m (points : (List Int)) (ties : (List (Int × Int))) : M (List (List Int)) :=
  (M.dcomp (fun _ => (M.ok true)) (fun x1 => (M.ok x1)) (fun x1 => (M.ok ([] : (List Int)))) (⟨points⟩ : Sq Int).l) >>= fun near_2 =>
  (M.ok ties) >>= fun l36 =>
  M.fold (fun (s3 : (DI (List Int))) x4 =>
    if (((s3.kv.lookup x4.1).isSome) && ((s3.kv.lookup x4.2).isSome)) then
      M.appDI s3 (M.ok x4.1) (M.ok x4.2) >>= fun near_5 =>
        M.appDI near_5 (M.ok x4.2) (M.ok x4.1) >>= fun near_6 =>
        M.ok near_6
    else
      M.ok s3) near_2 l36 >>= fun (s7 : (DI (List Int))) =>
  (M.ok ([] : (List (List Int)))) >>= fun groups_8 =>
  (M.ok (⟨[]⟩ : IS)) >>= fun seen_9 =>
  (M.ok (isort points)) >>= fun l35 =>
  M.fold (fun (s10 : ((List (List Int)) × IS)) x19 =>
    if (!memB x19 s10.2.l) then
      M.sadd s10.2 (M.ok x19) >>= fun seen_20 =>
        (M.ok ([] : (List Int))) >>= fun group_21 =>
        (M.ok [x19]) >>= fun waiting_22 =>
        M.loop (fun (s23 : (IS × (List Int) × (List Int))) => (M.ok (!s23.2.2.isEmpty))) (fun (s23 : (IS × (List Int) × (List Int))) =>
          (M.popL s23.2.2) >>= fun p24 =>
            M.push s23.2.1 (M.ok p24.2) >>= fun group_25 =>
            (M.ofO (s7.kv.lookup p24.2)) >>= fun l31 =>
            M.fold (fun (s26 : (IS × (List Int))) x27 =>
              if (!memB x27 s26.1.l) then
                M.sadd s26.1 (M.ok x27) >>= fun seen_28 =>
                  M.push s26.2 (M.ok x27) >>= fun waiting_29 =>
                  M.ok (seen_28, waiting_29)
              else
                M.ok (s26.1, s26.2)) (s23.1, p24.1) l31 >>= fun (s30 : (IS × (List Int))) =>
            M.ok (s30.1, group_25, s30.2)) (seen_20, group_21, waiting_22) >>= fun (s32 : (IS × (List Int) × (List Int))) =>
        M.push s10.1 (M.ok (isort s32.2.1)) >>= fun groups_33 =>
        M.ok (groups_33, s32.1)
    else
      M.ok (s10.1, s10.2)) (groups_8, seen_9) l35 >>= fun (s34 : ((List (List Int)) × IS)) =>
  M.ok s34.1
end PM

/-! PB: plain lemmas over the monad. -/
namespace G
open PySem L2
namespace M
variable {α β γ σ ρ : Type}
theorem fold_ok {f : σ → α → M σ} {xs : List α} {s0 : σ} (P : Nat → σ → Prop) (h0 : P 0 s0) (hs : ∀ i x s, xs[i]? = some x → P i s → ∃ s', f s x = .ok s' ∧ P (i + 1) s') : ∃ s, fold f s0 xs = .ok s ∧ P xs.length s := by
  have key : ∀ n, n ≤ xs.length → ∃ s, fold f s0 (xs.take n) = .ok s ∧ P n s := by
    intro n
    induction n with
    | zero => intro _; exact ⟨s0, rfl, h0⟩
    | succ n ih =>
      intro hn
      obtain ⟨s, e, p⟩ := ih (by omega)
      have hx : xs[n]? = some xs[n] := by simp [show n < xs.length by omega]
      obtain ⟨s', e', p'⟩ := hs n xs[n] s hx p
      refine ⟨s', ?_, p'⟩
      rw [List.take_add_one, hx]
      show fold f s0 (xs.take n ++ [xs[n]]) = _
      rw [fold_snoc, e]
      exact e'
  have := key xs.length (Nat.le_refl _)
  rwa [List.take_length] at this
/-- the state behind i turns is told -/
theorem fold_eq {f : σ → α → M σ} {xs : List α} (s0 : σ) (g : Nat → σ) (h0 : g 0 = s0) (hs : ∀ i x, xs[i]? = some x → f (g i) x = .ok (g (i + 1))) : fold f s0 xs = .ok (g xs.length) := by
  obtain ⟨s, e, p⟩ := fold_ok (f := f) (xs := xs) (s0 := s0) (fun i s => s = g i) h0.symm fun i x s hx e => ⟨g (i + 1), by rw [e]; exact hs i x hx, rfl⟩
  rw [e, p]
/-- turns that keep the state -/
theorem fold_unit {f : Unit → α → M Unit} {xs : List α} (h : ∀ x ∈ xs, f () x = .ok ()) : fold f () xs = .ok () :=
  fold_eq () (fun _ => ()) rfl fun i x hx => h x (List.mem_of_getElem? hx)
/-- turns of which none leaves -/
theorem foldC_ok {f : σ → α → M (Ct σ ρ)} {xs : List α} {s0 : σ} (P : Nat → σ → Prop) (h0 : P 0 s0) (hs : ∀ i x s, xs[i]? = some x → P i s → ∃ s', f s x = .ok (.nx s') ∧ P (i + 1) s') : ∃ s, foldC f s0 xs = .ok (.nx s) ∧ P xs.length s := by
  have key : ∀ n, n ≤ xs.length → ∃ s, foldC f s0 (xs.take n) = .ok (.nx s) ∧ P n s := by
    intro n
    induction n with
    | zero => intro _; exact ⟨s0, rfl, h0⟩
    | succ n ih =>
      intro hn
      obtain ⟨s, e, p⟩ := ih (by omega)
      have hx : xs[n]? = some xs[n] := by simp [show n < xs.length by omega]
      obtain ⟨s', e', p'⟩ := hs n xs[n] s hx p
      refine ⟨s', ?_, p'⟩
      rw [List.take_add_one, hx]
      show foldC f s0 (xs.take n ++ [xs[n]]) = _
      rw [foldC_app, e]
      show foldC f s [xs[n]] = _
      simp only [foldC]
      rw [e']; rfl
  have := key xs.length (Nat.le_refl _)
  rwa [List.take_length] at this
theorem range_ok {n : Int} (h0 : 0 ≤ n) (h1 : n ≤ 100000) : range n = .ok (rngL 0 n.toNat) := asrt_pos ⟨by omega, Int.le_trans h1 (by decide)⟩
theorem rangeN {n : Nat} (h1 : n ≤ 100000) : range (n : Int) = .ok (rngL 0 n) := by rw [range_ok (by omega) (by omega)]; simp
theorem push_small {xs : List α} {y : α} (h : xs.length ≤ 100000) : push xs (.ok y) = .ok (xs ++ [y]) := push_ok (small1k h)
theorem ix_at {xs : List α} {i : Int} {x : α} (h0 : 0 ≤ i) (h : xs[i.toNat]? = some x) : ix xs i = .ok x := by unfold ix; rw [atI_of h0 h]; rfl
theorem ix_some {xs : List α} {i : Int} (h0 : 0 ≤ i) (h1 : i < xs.length) : ∃ x, xs[i.toNat]? = some x ∧ ix xs i = .ok x := by
  have hlt : i.toNat < xs.length := by omega
  exact ⟨xs[i.toNat], by simp [hlt], ix_at h0 (by simp [hlt])⟩
theorem ix_getD {xs : List α} {i : Int} (d : α) (h0 : 0 ≤ i) (h1 : i < xs.length) : ix xs i = .ok (xs.getD i.toNat d) := by
  obtain ⟨x, hx, e⟩ := ix_some h0 h1
  rw [e, List.getD_eq_getElem?_getD, hx]; rfl
theorem comp_filter {p : α → M Bool} (p' : α → Bool) {xs : List α} (h1 : ∀ x ∈ xs, p x = .ok (p' x)) : comp p (fun x => .ok x) xs = .ok (xs.filter p') := by
  rw [comp_of p' (fun x => x) xs h1 fun _ _ _ => rfl, List.map_id']
theorem comp_mapM {f : α → M β} (f' : α → β) {xs : List α} (h : ∀ x ∈ xs, f x = .ok (f' x)) : comp (fun _ => .ok true) f xs = .ok (xs.map f') := by
  rw [comp_of (fun _ => true) f' xs (fun _ _ => rfl) fun x hx _ => h x hx, List.filter_eq_self.mpr fun _ _ => rfl]
theorem tryK_exc {kn p : XC → Bool} {x : PX} {h : PX → M α} (h1 : kn x.cls = true) (h2 : p x.cls = true) : tryK kn p (.exc x) h = h x := by
  show (if kn x.cls = true then (if p x.cls = true then h x else .exc x) else .bad) = _
  rw [if_pos h1, if_pos h2]
@[simp] theorem tryK_ok {kn p : XC → Bool} {x : α} {h : PX → M α} : tryK kn p (.ok x) h = .ok x := rfl
/-- m ends well, with a value as R says -/
def sat (m : M α) (R : α → Prop) : Prop := ∃ r, m = .ok r ∧ R r
theorem sat_ok {x : α} {R : α → Prop} (h : R x) : sat (.ok x) R := ⟨x, rfl, h⟩
theorem sat_bind {m : M α} {f : α → M β} {R1 : α → Prop} {R : β → Prop} (h : sat m R1) (h2 : ∀ x, R1 x → sat (f x) R) : sat (m >>= f) R := by
  obtain ⟨x, rfl, hx⟩ := h
  exact h2 x hx
theorem sat_eq {m : M α} {f : α → M β} {x : α} {R : β → Prop} (h : m = .ok x) (h2 : sat (f x) R) : sat (m >>= f) R := by
  rw [h]; exact h2
theorem sat_mono {m : M α} {R R' : α → Prop} (h : sat m R) (h2 : ∀ x, R x → R' x) : sat m R' := let ⟨x, e, hx⟩ := h; ⟨x, e, h2 x hx⟩
theorem sat_if {b : Bool} {m n : M α} {R : α → Prop} (h : b = true → sat m R) (h2 : b = false → sat n R) : sat (if b then m else n) R := by
  cases b with
  | true => exact h rfl
  | false => exact h2 rfl
theorem sat_fold {f : σ → α → M σ} {xs : List α} {s0 : σ} (P : Nat → σ → Prop) (h0 : P 0 s0) (hs : ∀ i x s, xs[i]? = some x → P i s → sat (f s x) (P (i + 1))) : sat (fold f s0 xs) (P xs.length) := fold_ok P h0 hs
theorem sat_push {xs : List α} {m : M α} {R : List α → Prop} (hl : xs.length ≤ 100000) (h : sat m fun y => R (xs ++ [y])) : sat (push xs m) R := by
  obtain ⟨y, rfl, hy⟩ := h
  exact ⟨_, push_ok (small1k hl), hy⟩
theorem sat_ix {xs : List α} {i : Int} {R : α → Prop} (h0 : 0 ≤ i) (h1 : i < xs.length) (h : ∀ x, xs[i.toNat]? = some x → R x) : sat (ix xs i) R := by
  have hlt : i.toNat < xs.length := by omega
  have e : xs[i.toNat]? = some xs[i.toNat] := by simp [hlt]
  exact ⟨_, by unfold ix; rw [atI_of h0 e]; rfl, h _ e⟩
theorem bnd {m : M α} {x : α} {f : α → M β} (h : m = .ok x) : (m >>= f) = f x := by rw [h]; rfl
end M
theorem rngL_get {lo : Int} {n i : Nat} {x : Int} (h : (rngL lo n)[i]? = some x) : i < n ∧ x = lo + i := by
  rw [← rng_get] at h
  exact rng_some h
theorem mem_rngL {lo : Int} {n : Nat} {x : Int} : x ∈ rngL lo n ↔ lo ≤ x ∧ x < lo + n := by
  unfold rngL
  rw [List.mem_map]
  constructor
  · rintro ⟨i, hi, rfl⟩
    rw [List.mem_range] at hi
    omega
  · intro ⟨h1, h2⟩
    exact ⟨(x - lo).toNat, List.mem_range.mpr (by omega), by omega⟩
theorem rngL_succ (lo : Int) (n : Nat) : rngL lo (n + 1) = rngL lo n ++ [lo + n] := by
  unfold rngL
  rw [List.range_succ, List.map_append]; rfl
end G

/-! PL: what the shared helpers compute. -/
namespace PM
open PySem L2 G
theorem cell_ok (s : Sq Int) {k : Int} (hk : 0 ≤ k) : ∃ x, l_cell_m s k = .ok x := by
  unfold l_cell_m
  split
  · next h =>
    simp at h
    obtain ⟨x, _, e⟩ := M.ix_some hk h
    exact ⟨x, e⟩
  · exact ⟨_, rfl⟩
theorem draws_ok (c : Int) {m : Int} (h0 : 0 ≤ m) (h1 : m ≤ 1000) : ∃ ds, l_draws_m c m = .ok ds := by
  suffices M.sat (l_draws_m c m) fun _ => True from let ⟨d, e, _⟩ := this; ⟨d, e⟩
  unfold l_draws_m
  simp only [M.ok_bind]
  rw [M.range_ok h0 (by omega)]
  simp only [M.ok_bind]
  refine M.sat_bind (M.sat_fold (fun i s => s.2.2.length ≤ i) (Nat.le_refl 0) fun i x s hx hs => ?_) fun s _ => M.sat_ok trivial
  have hi := (rngL_get hx).1
  refine M.sat_if (fun _ => ?_) fun _ => ?_
  · exact M.sat_bind (M.sat_push (R := fun y => y.length ≤ i + 1) (by omega) (M.sat_ok (by simp; omega))) fun y hy => M.sat_ok hy
  · exact M.sat_bind (M.sat_push (R := fun y => y.length ≤ i + 1) (by omega) (M.sat_ok (by simp; omega))) fun y hy => M.sat_ok hy
def pick (d : List Int) (k m : Int) : Int := if m < 2 ∨ d = [] then 0 else d.getD (k % d.length).toNat 0 % m
theorem pick_eq (d : List Int) (k m : Int) : l_pick_m d k m = .ok (pick d k m) := by
  unfold l_pick_m pick
  by_cases h : m < 2 ∨ d = []
  · rw [if_pos h, if_pos]
    simp; exact h
  · rw [if_neg h, if_neg (by simp; exact ⟨by omega, fun z => h (.inr z)⟩)]
    have hd : d ≠ [] := fun z => h (.inr z)
    have hl : 0 < d.length := List.length_pos_iff.mpr hd
    have h1 : 0 ≤ k % (d.length : Int) := Int.emod_nonneg _ (by omega)
    have h2 : k % (d.length : Int) < d.length := Int.emod_lt_of_pos _ (by omega)
    rw [M.asrt_pos (by omega)]
    simp only [M.ok_bind]
    rw [M.ix_getD 0 h1 h2]
    simp only [M.ok_bind]
    rw [M.asrt_pos (by omega)]
theorem pick_range {d : List Int} {k m : Int} (h : 1 ≤ m) : 0 ≤ pick d k m ∧ pick d k m < m := by
  unfold pick
  split
  · omega
  · exact ⟨Int.emod_nonneg _ (by omega), Int.emod_lt_of_pos _ (by omega)⟩
/-- sides and ties that make a web -/
structure Good (sides : List Int) (ties : List T4I) : Prop where
  sd : ∀ s ∈ sides, 1 ≤ s ∧ s ≤ 4
  ti : ∀ x ∈ ties, 0 ≤ x.a ∧ x.a < sides.length ∧ 0 ≤ x.b ∧ x.b < sides.getD x.a.toNat 0 ∧ 0 ≤ x.c ∧ x.c < sides.length ∧ 0 ≤ x.d ∧ x.d < sides.getD x.c.toNat 0
theorem getD_mem {xs : List Int} {i : Int} (h0 : 0 ≤ i) (h1 : i < xs.length) : xs.getD i.toNat 0 ∈ xs := by
  have hlt : i.toNat < xs.length := by omega
  rw [List.getD_eq_getElem?_getD, List.getElem?_eq_getElem hlt]
  exact List.getElem_mem hlt
theorem web_sat (d : List Int) {p t : Int} (hp0 : 0 ≤ p) (hp1 : p ≤ 1000) (ht0 : 0 ≤ t) (ht1 : t ≤ 1000) : M.sat (l_web_m d p t) fun r => Good r.1 r.2 ∧ r.1.length ≤ p.toNat ∧ r.2.length ≤ t.toNat := by
  unfold l_web_m
  simp only [M.ok_bind, pick_eq]
  have hm := pick_range (d := d) (k := 0) (m := p + 1) (by omega)
  generalize pick d 0 (p + 1) = many at hm
  rw [M.range_ok hm.1 (by omega)]
  simp only [M.ok_bind]
  have menu : ∀ k : Int, ∃ x, M.ix ([2, 2, 3, 2, 1, 4] : List Int) (pick d k 6) = .ok x ∧ 1 ≤ x ∧ x ≤ 4 := fun k => by
    have hr := pick_range (d := d) (k := k) (m := 6) (by omega)
    generalize pick d k 6 = j at hr
    obtain ⟨x, hx, e⟩ := M.ix_some (xs := ([2, 2, 3, 2, 1, 4] : List Int)) hr.1 (by simpa using hr.2)
    refine ⟨x, e, ?_⟩
    have hmem := List.mem_of_getElem? hx
    simp at hmem
    omega
  have comp : ∃ sides : List Int, M.comp (fun _ => (M.ok true)) (fun x3 => M.ix ([2, 2, 3, 2, 1, 4] : List Int) (pick d (2 + x3) 6)) (rngL 0 many.toNat) = .ok sides ∧ sides.length = many.toNat ∧ ∀ s ∈ sides, 1 ≤ s ∧ s ≤ 4 := by
    refine ⟨_, M.comp_of (fun _ => true) (fun x3 => (menu (2 + x3)).choose) _ (fun _ _ => rfl) (fun x _ _ => (menu (2 + x)).choose_spec.1), ?_, ?_⟩
    · rw [List.length_map, List.filter_eq_self.mpr fun _ _ => rfl, rngL_len]
    · intro s hs
      rw [List.mem_map] at hs
      obtain ⟨x, _, rfl⟩ := hs
      exact (menu (2 + x)).choose_spec.2
  obtain ⟨sides, es, hl, hsd⟩ := comp
  rw [es]
  simp only [M.ok_bind]
  have hk := pick_range (d := d) (k := 1) (m := t + 1) (by omega)
  generalize pick d 1 (t + 1) = kk at hk
  rw [M.range_ok hk.1 (by omega)]
  simp only [M.ok_bind]
  have hlen : (sides.length : Int) = many := by omega
  refine M.sat_bind (M.sat_fold (fun i (s : List T4I) => Good sides s ∧ s.length ≤ i) ⟨⟨hsd, fun x hx => (nomatch hx)⟩, Nat.le_refl 0⟩ fun i x s hx ⟨hs, hsl⟩ => ?_) fun s ⟨h1, h2⟩ => M.sat_ok ⟨h1, by show sides.length ≤ _; omega, by rw [rngL_len] at h2; show s.length ≤ _; omega⟩
  have hi := (rngL_get hx).1
  refine M.sat_if (fun hb => ?_) fun _ => M.sat_ok ⟨hs, by omega⟩
  have h0 : 0 < many := by simpa using hb
  generalize ((2 : Int) + many) + ((4 : Int) * x) = at_
  have r1 := pick_range (d := d) (k := at_) (m := many) (by omega)
  have r2 := pick_range (d := d) (k := at_ + 2) (m := many) (by omega)
  generalize pick d at_ many = one at r1
  generalize pick d (at_ + 2) many = other at r2
  rw [M.ix_getD 0 r1.1 (by omega), M.ix_getD 0 r2.1 (by omega)]
  simp only [M.ok_bind]
  have g1 := hsd _ (getD_mem (xs := sides) r1.1 (by omega))
  have g2 := hsd _ (getD_mem (xs := sides) r2.1 (by omega))
  have r3 := pick_range (d := d) (k := at_ + 1) (m := sides.getD one.toNat 0) (by omega)
  have r4 := pick_range (d := d) (k := at_ + 3) (m := sides.getD other.toNat 0) (by omega)
  rw [M.push_small (by omega)]
  refine ⟨_, rfl, ⟨hsd, fun y hy => ?_⟩, by simp; omega⟩
  rcases List.mem_append.mp hy with hy | hy
  · exact hs.ti y hy
  · rw [List.mem_singleton] at hy
    subst hy
    exact ⟨r1.1, by show one < (sides.length : Int); omega, r3.1, r3.2, r2.1, by show other < (sides.length : Int); omega, r4.1, r4.2⟩
theorem web_ok (d : List Int) {p t : Int} (hp0 : 0 ≤ p) (hp1 : p ≤ 1000) (ht0 : 0 ≤ t) (ht1 : t ≤ 1000) : ∃ sides ties, l_web_m d p t = .ok (sides, ties) ∧ Good sides ties ∧ sides.length ≤ p.toNat ∧ ties.length ≤ t.toNat :=
  let ⟨⟨a, b⟩, e, h⟩ := web_sat d hp0 hp1 ht0 ht1; ⟨a, b, e, h⟩
theorem check_ok {sides : List Int} {p s : Int} (h1 : 0 ≤ p) (h2 : p < sides.length) (h3 : 0 ≤ s) (h4 : s < sides.getD p.toNat 0) : p_check_end_m sides p s = .ok () := by
  unfold p_check_end_m
  rw [if_neg (by simp; omega), if_neg (by simp; omega), M.ix_getD 0 h1 h2]
  simp only [M.ok_bind]
  rw [if_neg (by simp only [decide_eq_true_eq]; omega)]
theorem init_ok {sides : List Int} {ties : List T4I} (h : Good sides ties) (hs : sides.length ≤ 200) (ht : ties.length ≤ 300) : m_WebX_initX_m sides ties = .ok ⟨⟨sides⟩, ⟨ties⟩⟩ := by
  unfold m_WebX_initX_m
  rw [if_neg (by simp; omega), if_neg (by simp; omega)]
  simp only [M.ok_bind]
  rw [M.fold_unit fun x hx => ?_]
  simp only [M.ok_bind]
  rw [M.fold_unit fun x hx => ?_]
  simp only [M.ok_bind]
  · rw [M.comp_map]
    simp only [M.ok_bind]
    have : (ties.map fun x8 : T4I => (⟨x8.a, x8.b, x8.c, x8.d⟩ : T4I)) = ties := by
      refine (List.map_congr_left fun x _ => ?_).trans (List.map_id ties)
      cases x; rfl
    rw [this]
  · obtain ⟨a, b, c, d, e, f, g, i⟩ := h.ti x hx
    rw [check_ok a b c d, check_ok e f g i]; rfl
  · unfold M.enumL at hx
    rw [List.mem_map] at hx
    obtain ⟨p, hp, rfl⟩ := hx
    have hm : p.1 ∈ sides := by
      have := List.mem_zipIdx hp
      rw [this.2.2]
      exact List.getElem_mem _
    have := h.sd _ hm
    rw [if_neg (by simp; omega)]
/-! steps -/
def tl (ties : List T4I) (s : Int × Int) : Int × Int := let x := ties.getD s.1.toNat ⟨0, 0, 0, 0⟩; if s.2 = 0 then (x.a, x.b) else (x.c, x.d)
def bk (s : Int × Int) : Int × Int := (s.1, 1 - s.2)
/-- the step walks a tie -/
def IsStep (ties : List T4I) (s : Int × Int) : Prop := 0 ≤ s.1 ∧ s.1 < ties.length ∧ (s.2 = 0 ∨ s.2 = 1)
theorem IsStep.bk {ties : List T4I} {s : Int × Int} (h : IsStep ties s) : IsStep ties (bk s) := ⟨h.1, h.2.1, by rcases h.2.2 with e | e <;> simp [PM.bk, e]⟩
theorem back_eq (s : Int × Int) : m_Web_back_m s = .ok (bk s) := rfl
theorem tail_eq {w : WebM} {s : Int × Int} (h0 : 0 ≤ s.1) (h1 : s.1 < w.b.l.length) : m_Web_tail_m w s = .ok (tl w.b.l s) := by
  unfold m_Web_tail_m tl
  simp only [M.ok_bind]
  rw [if_neg (by simp; omega), M.ix_getD ⟨0, 0, 0, 0⟩ h0 h1]
  simp only [M.ok_bind]
  by_cases h : s.2 = 0
  · rw [if_pos (by simpa using h), if_pos h]
  · rw [if_neg (by simpa using h), if_neg h]
theorem tail_bad {w : WebM} {s : Int × Int} (h : s.1 < 0 ∨ (w.b.l.length : Int) ≤ s.1) : m_Web_tail_m w s = .exc ⟨.UnknownTie, some [("tie", .int s.1)]⟩ := by
  unfold m_Web_tail_m
  simp only [M.ok_bind]
  rw [if_pos (by simp; omega)]
  rfl
theorem head_eq {w : WebM} {s : Int × Int} (h0 : 0 ≤ s.1) (h1 : s.1 < w.b.l.length) : m_Web_head_m w s = .ok (tl w.b.l (bk s)) := by
  unfold m_Web_head_m
  rw [back_eq]
  simp only [M.ok_bind]
  exact tail_eq (s := bk s) h0 h1
theorem head_bad {w : WebM} {s : Int × Int} (h : s.1 < 0 ∨ (w.b.l.length : Int) ≤ s.1) : m_Web_head_m w s = .exc ⟨.UnknownTie, some [("tie", .int s.1)]⟩ := by
  unfold m_Web_head_m
  rw [back_eq]
  simp only [M.ok_bind]
  exact tail_bad (s := bk s) h
theorem has_eq (w : WebM) (p : Int) : m_WebX_containsX_m w p = .ok (decide (0 ≤ p) && decide (p < w.a.l.length)) := rfl
/-- all steps, ascending -/
def allSteps : Nat → List (Int × Int)
  | 0 => []
  | n + 1 => allSteps n ++ [((n : Int), 0), ((n : Int), 1)]
theorem mem_allSteps {n : Nat} {s : Int × Int} : s ∈ allSteps n ↔ 0 ≤ s.1 ∧ s.1 < n ∧ (s.2 = 0 ∨ s.2 = 1) := by
  induction n with
  | zero => simp [allSteps]; omega
  | succ n ih =>
    obtain ⟨t, d⟩ := s
    simp only [allSteps, List.mem_append, ih, List.mem_cons, Prod.mk.injEq, List.not_mem_nil, or_false]
    omega
theorem allSteps_len (n : Nat) : (allSteps n).length = 2 * n := by
  induction n with
  | zero => rfl
  | succ n ih => simp [allSteps, ih]; omega
theorem steps_from_eq {w : WebM} {p : Int} (h0 : 0 ≤ p) (h1 : p < w.a.l.length) (hn : w.b.l.length ≤ 10000) : m_Web_steps_from_m w p = .ok ((allSteps w.b.l.length).filter fun s => decide ((tl w.b.l s).1 = p)) := by
  unfold m_Web_steps_from_m
  rw [has_eq, decide_eq_true h0, decide_eq_true h1]
  simp only [Bool.and_self, M.calm_of_ok, M.ok_bind, Bool.not_true]
  rw [if_neg (by simp)]
  rw [M.fold_eq [] (fun i => (allSteps i).filter fun s => decide ((tl w.b.l s).1 = p)) rfl fun i x hx => ?_]
  · rw [M.enumL_len]; rfl
  · rw [← M.enumL_get] at hx
    unfold enumI at hx
    obtain ⟨y, hy, rfl⟩ := Option.map_eq_some_iff.mp hx
    have hi : i < w.b.l.length := (List.getElem?_eq_some_iff.mp hy).1
    have e0 : w.b.l.getD i ⟨0, 0, 0, 0⟩ = y := by rw [List.getD_eq_getElem?_getD, hy]; rfl
    have e1 : tl w.b.l ((i : Int), 0) = (y.a, y.b) := by unfold tl; simp only [Int.toNat_natCast, e0, if_true]
    have e2 : tl w.b.l ((i : Int), 1) = (y.c, y.d) := by unfold tl; simp only [Int.toNat_natCast, e0]; rw [if_neg (by decide)]
    have hl : ((allSteps i).filter fun s => decide ((tl w.b.l s).1 = p)).length ≤ 2 * i := by rw [← allSteps_len i]; exact List.length_filter_le _ _
    show _ = M.ok ((allSteps i ++ [((i : Int), 0), ((i : Int), 1)]).filter _)
    rw [List.filter_append]
    simp only [List.filter_cons, e1, e2, List.filter_nil]
    by_cases ha : y.a = p
    · rw [if_pos (by simpa using ha), M.push_small (by omega)]
      simp only [M.ok_bind]
      by_cases hc : y.c = p
      · rw [if_pos (by simpa using hc), M.push_small (by simp; omega)]
        simp [ha, hc]
      · rw [if_neg (by simpa using hc)]
        simp [ha, hc]
    · rw [if_neg (by simpa using ha)]
      simp only [M.ok_bind]
      by_cases hc : y.c = p
      · rw [if_pos (by simpa using hc), M.push_small (by omega)]
        simp [ha, hc]
      · rw [if_neg (by simpa using hc)]
        simp [ha, hc]
/-- the followers of a step -/
def fols (ties : List T4I) (s : Int × Int) : List (Int × Int) := (allSteps ties.length).filter fun f => decide ((tl ties f).1 = (tl ties (bk s)).1) && !decide ((tl ties f).2 = (tl ties (bk s)).2)
theorem tl_place {sides : List Int} {ties : List T4I} (g : Good sides ties) {s : Int × Int} (h : IsStep ties s) : 0 ≤ (tl ties s).1 ∧ (tl ties s).1 < sides.length := by
  have hlt : s.1.toNat < ties.length := by have := h.1; have := h.2.1; omega
  have hm : ties.getD s.1.toNat ⟨0, 0, 0, 0⟩ ∈ ties := by rw [List.getD_eq_getElem?_getD, List.getElem?_eq_getElem hlt]; exact List.getElem_mem hlt
  obtain ⟨a, b, c, d, e, f, g, i⟩ := g.ti _ hm
  unfold tl
  by_cases hz : s.2 = 0
  · rw [if_pos hz]; exact ⟨a, b⟩
  · rw [if_neg hz]; exact ⟨e, f⟩
theorem followers_eq {sides : List Int} {ties : List T4I} (g : Good sides ties) (hn : ties.length ≤ 10000) {s : Int × Int} (h : IsStep ties s) : p_followers_m ⟨⟨sides⟩, ⟨ties⟩⟩ s = .ok (fols ties s) := by
  have hp := tl_place g h.bk
  unfold p_followers_m fols
  rw [head_eq (w := ⟨⟨sides⟩, ⟨ties⟩⟩) h.1 h.2.1]
  simp only [M.ok_bind]
  rw [steps_from_eq (w := ⟨⟨sides⟩, ⟨ties⟩⟩) hp.1 hp.2 hn]
  simp only [M.ok_bind]
  rw [M.comp_filter (fun f => !decide ((tl ties f).2 = (tl ties (bk s)).2)) fun x hx => ?_]
  · rw [List.filter_filter]
    congr 2
    funext f
    rw [Bool.and_comm]
  · have hm := mem_allSteps.mp (List.mem_filter.mp hx).1
    rw [tail_eq (w := ⟨⟨sides⟩, ⟨ties⟩⟩) hm.1 hm.2.1]; rfl
theorem turns_eq {w : WebM} {s f : Int × Int} (h : IsStep w.b.l s) (h2 : IsStep w.b.l f) : p_turns_m w s f = .ok (!decide ((tl w.b.l (bk s)).2 = (tl w.b.l f).2)) := by
  unfold p_turns_m
  rw [head_eq h.1 h.2.1, tail_eq h2.1 h2.2.1]; rfl
end PM

/-! PG: loops with an invariant; what grouped computes; paired webs. -/
namespace G
open PySem L2
namespace M
variable {α β γ σ ρ : Type}
theorem sat_loop {c : σ → M Bool} {f : σ → M σ} {s0 : σ} {R : σ → Prop} (I : σ → Prop) (mu : σ → Nat) (h0 : I s0) (hc : ∀ s, I s → ∃ b, c s = .ok b ∧ (b = true → sat (f s) fun s' => I s' ∧ mu s' < mu s) ∧ (b = false → R s)) : sat (loop c f s0) R := by
  suffices ∀ n s, mu s ≤ n → I s → sat (loop c f s) R from this _ s0 (Nat.le_refl _) h0
  intro n
  induction n with
  | zero =>
    intro s hn hs
    obtain ⟨b, e, h1, h2⟩ := hc s hs
    rw [loop_eq, e]
    cases b with
    | true => obtain ⟨s', _, _, hl⟩ := h1 rfl; omega
    | false => exact ⟨s, rfl, h2 rfl⟩
  | succ n ih =>
    intro s hn hs
    obtain ⟨b, e, h1, h2⟩ := hc s hs
    rw [loop_eq, e]
    cases b with
    | true =>
      obtain ⟨s', e', hi, hl⟩ := h1 rfl
      simp only [ok_bind, if_true]
      rw [e']
      exact ih s' (by omega) hi
    | false => exact ⟨s, rfl, h2 rfl⟩
/-- a for whose turns may leave -/
theorem sat_foldC {f : σ → α → M (Ct σ ρ)} {Q : Ct σ ρ → Prop} : ∀ {xs : List α} {s0 : σ} (P : Nat → σ → Prop), P 0 s0 → (∀ i x s, xs[i]? = some x → P i s → sat (f s x) fun c => match c with | .nx s' => P (i + 1) s' | c => Q c) → (∀ s, P xs.length s → Q (.nx s)) → sat (foldC f s0 xs) Q
  | [], s0, P, h0, _, he => ⟨_, rfl, he s0 h0⟩
  | x :: xs, s0, P, h0, hs, he => by
    obtain ⟨c, e, hc⟩ := hs 0 x s0 rfl h0
    simp only [foldC]
    rw [e]
    simp only [ok_bind]
    cases c with
    | nx s' => exact sat_foldC (fun i s => P (i + 1) s) hc (fun i y s hy hp => hs (i + 1) y s hy hp) fun s hp => he s hp
    | rt r => exact ⟨_, rfl, hc⟩
    | bk s' => exact ⟨_, rfl, hc⟩
theorem sat_val {m : M α} {x : α} (h : sat m (· = x)) : m = .ok x := by obtain ⟨y, e, rfl⟩ := h; exact e
theorem popL_snoc {xs : List α} {x : α} : M.popL (xs ++ [x]) = .ok (xs, x) := by
  unfold M.popL
  rw [List.getLast?_concat]
  simp
theorem sadd_new {s : IS} {x : Int} (h : x ∉ s.l) (hl : s.l.length ≤ 4000) : M.sadd s (.ok x) = .ok ⟨s.l ++ [x]⟩ := by
  unfold M.sadd
  simp only [ok_bind]
  rw [asrt_pos (show s.l.length + 1 < PySem.scanBound from Nat.lt_of_le_of_lt (show s.l.length + 1 ≤ 4001 by omega) (by decide))]
  unfold isAdd
  rw [if_neg h]
theorem appDI_ok {x : DI (List α)} {n : Int} {y : α} {xs : List α} (h : x.kv.lookup n = some xs) (hl : xs.length ≤ 100000) : M.appDI x (.ok n) (.ok y) = .ok ⟨setI x.kv n (xs ++ [y])⟩ := by
  unfold M.appDI
  simp only [ok_bind]
  rw [h]
  simp only [ofO_some, ok_bind]
  exact asrt_pos (small1k hl)
theorem dcomp_nil {xs : List Int} {v : Int → β} (hn : xs.Nodup) (hl : xs.length ≤ 100000) : M.dcomp (fun _ => .ok true) (fun x => .ok x) (fun x => .ok (v x)) xs = .ok ⟨xs.map fun k => (k, v k)⟩ := by
  unfold M.dcomp
  rw [fold_eq (⟨[]⟩ : DI β) (fun i => ⟨(xs.take i).map fun k => (k, v k)⟩) rfl fun i x hx => ?_]
  · rw [List.take_length]
  · have hlt := (List.getElem?_eq_some_iff.mp hx).1
    simp only [calm_of_ok, ok_bind, if_true]
    have h1 : ((xs.take i).map fun k => (k, v k)).lookup x = none := by
      refine lookup_none_of fun p hp => ?_
      rw [List.mem_map] at hp
      obtain ⟨k, hk, rfl⟩ := hp
      intro e
      have e' : k = x := e
      subst e'
      obtain ⟨j, hj, e2⟩ := List.mem_take_iff_getElem.mp hk
      obtain ⟨hi', e3⟩ := List.getElem?_eq_some_iff.mp hx
      exact List.pairwise_iff_getElem.mp (List.nodup_iff_pairwise_ne.mp hn) j i (by omega) hlt (by omega) (e2.trans e3.symm)
    have h2 : ((xs.take i).map fun k => (k, v k)).length < PySem.sizeLine := by
      rw [List.length_map, List.length_take]
      exact small1k (by omega)
    rw [asrt_pos ⟨h1, h2⟩, List.take_add_one, hx, List.map_append]
    rfl
end M
end G
namespace PM
open PySem L2 G
theorem grouped_eq {pts : List Int} {ties : List (Int × Int)} (hn : pts.Nodup) (hp : pts.length ≤ 1000) (ht : ties.length ≤ 1000) : p_grouped_m pts ties = .ok (groupsOf pts ties) := by
  refine M.sat_val ?_
  unfold p_grouped_m
  rw [M.dcomp_nil hn (by omega)]
  simp only [M.ok_bind]
  refine M.sat_bind (M.sat_fold (fun i (s : DI (List Int)) => NearOk pts (ties.take i) s.kv) (near_start hn) fun i x s hx hs => ?_) fun near hk => ?_
  · have htk : ties.take (i + 1) = ties.take i ++ [(x.1, x.2)] := by rw [List.take_add_one, hx]; rfl
    have hlt := (List.getElem?_eq_some_iff.mp hx).1
    rw [htk]
    have hlen : ∀ k xs, s.kv.lookup k = some xs → xs.length ≤ 2 * i := fun k xs e => by
      have := (hs.items k xs e).2
      rw [List.length_take] at this
      omega
    refine M.sat_if (fun hb => ?_) fun hb => M.sat_ok (near_skip hs fun ⟨a, b⟩ => ?_)
    · rw [Bool.and_eq_true] at hb
      obtain ⟨xa, ea⟩ := Option.isSome_iff_exists.mp hb.1
      obtain ⟨xb0, eb0⟩ := Option.isSome_iff_exists.mp hb.2
      rw [M.appDI_ok ea (by have := hlen _ _ ea; omega)]
      simp only [M.ok_bind]
      have hb2 : ∃ xb, (setI s.kv x.1 (xa ++ [x.2])).lookup x.2 = some xb ∧ xb.length ≤ 2 * i + 1 := by
        rw [lookup_setI]
        by_cases e : x.2 = x.1
        · rw [if_pos e, ea]; exact ⟨_, rfl, by have := hlen _ _ ea; simp; omega⟩
        · rw [if_neg e]; exact ⟨xb0, eb0, by have := hlen _ _ eb0; omega⟩
      obtain ⟨xb, eb, hbl⟩ := hb2
      rw [M.appDI_ok (x := ⟨setI s.kv x.1 (xa ++ [x.2])⟩) eb (by omega)]
      exact ⟨_, rfl, near_step hs ((hs.has _).mp hb.1) ((hs.has _).mp hb.2) ea eb⟩
    · rw [(hs.has _).mpr a, (hs.has _).mpr b] at hb
      cases hb
  rw [List.take_length] at hk
  refine M.sat_bind (M.sat_fold (fun i (s : List (List Int) × IS) => s.1 = (firsts pts ties ((isort pts).take i)).map (compOf pts ties) ∧ Seen pts ties ((isort pts).take i) s.2.l) ⟨rfl, ⟨List.nodup_nil, fun x => by simp⟩⟩ fun i x s hx ⟨hg, hs⟩ => ?_) fun s ⟨hg, _⟩ => M.sat_ok ?_
  · have htk : (isort pts).take (i + 1) = (isort pts).take i ++ [x] := by rw [List.take_add_one, hx]; rfl
    have hxm : x ∈ pts := mem_isort.mp (List.mem_of_getElem? hx)
    have hmin := min_iff hn hx hs
    have hseen : s.2.l.length ≤ pts.length := len_le hs.nd fun y hy => ((hs.mem y).mp hy).1
    have hgl : s.1.length ≤ 1000 := by
      rw [hg, List.length_map]
      have h1 : (firsts pts ties ((isort pts).take i)).length ≤ ((isort pts).take i).length := List.length_filter_le _ _
      rw [List.length_take, (isort_perm pts).length_eq] at h1
      omega
    refine M.sat_if (fun hb => ?_) fun hb => ?_
    · have hns : x ∉ s.2.l := by simpa [memB] using hb
      rw [M.sadd_new hns (by omega)]
      simp only [M.ok_bind]
      have h0 := hs.start hxm hns
      refine M.sat_bind (R1 := fun st : IS × List Int × List Int => Dfs pts ties s.2.l x st.1.l st.2.1 []) (M.sat_loop (fun st : IS × List Int × List Int => Dfs pts ties s.2.l x st.1.l st.2.1 st.2.2) (fun st => pts.length + 1 - st.2.1.length) h0 fun st hst => ⟨_, rfl, fun hb => ?_, fun hb => ?_⟩) fun st hd => ?_
      · have hall : (st.2.1 ++ st.2.2).length ≤ pts.length := len_le hst.nd fun y hy => (hst.re y hy).2
        rw [List.length_append] at hall
        have hne : st.2.2 ≠ [] := by simpa using hb
        obtain ⟨ws, m, hw⟩ : ∃ ws m, st.2.2 = ws ++ [m] := ⟨_, _, (List.dropLast_concat_getLast hne).symm⟩
        rw [hw] at hst hall
        rw [List.length_append] at hall
        rw [hw, M.popL_snoc]
        simp only [M.ok_bind]
        rw [M.push_small (by omega)]
        simp only [M.ok_bind]
        have hmp : m ∈ pts := (hst.re m (by simp)).2
        obtain ⟨xs, exs⟩ := Option.isSome_iff_exists.mp ((hk.has m).mpr hmp)
        rw [exs]
        simp only [M.ofO_some, M.ok_bind]
        refine M.sat_bind (M.sat_fold (fun i (q : IS × List Int) => Dfs2 pts ties s.2.l x q.1.l (st.2.1 ++ [m]) q.2 m (xs.take i)) hst.take fun j z q hz hq => ?_) fun q hq => M.sat_ok ⟨?_, ?_⟩
        · have hzt : xs.take (j + 1) = xs.take j ++ [z] := by rw [List.take_add_one, hz]; rfl
          rw [hzt]
          have ad : Adj pts ties m z := ((hk.items m xs exs).1 z).mp (List.mem_of_getElem? hz)
          have hql : ((st.2.1 ++ [m]) ++ q.2).length ≤ pts.length := len_le hq.nd fun y hy => (hq.re y hy).2
          rw [List.length_append] at hql
          have hqs : q.1.l.length ≤ pts.length := len_le hq.sn hq.sub
          refine M.sat_if (fun hb => ?_) fun hb => ?_
          · have hzn : z ∉ q.1.l := by simpa [memB] using hb
            rw [M.sadd_new hzn (by omega)]
            simp only [M.ok_bind]
            rw [M.push_small (by omega)]
            exact ⟨_, rfl, hq.push ad hzn⟩
          · have hzm : z ∈ q.1.l := by simpa [memB] using hb
            exact ⟨_, rfl, hq.skip hzm⟩
        · rw [List.take_length] at hq
          exact hq.back fun z a => ((hk.items m xs exs).1 z).mpr a
        · show pts.length + 1 - (st.2.1 ++ [m]).length < pts.length + 1 - st.2.1.length
          rw [List.length_append]
          simp only [List.length_singleton, List.length_cons, List.length_nil] at hall ⊢
          omega
      · have he : st.2.2 = [] := by simpa using hb
        rw [he] at hst
        exact hst
      · rw [M.push_small (by omega)]
        refine ⟨_, rfl, ?_, ?_⟩
        · show s.1 ++ [isort st.2.1] = _
          rw [(firsts_take i hx).1 (hmin.mpr hns), List.map_append, hg]
          congr 1
          rw [isort_comp hn (by have := hd.nd; simpa using this) fun y => hd.done (fun a b => hs.clo a b) hns y]
          rfl
        · rw [htk]
          exact hs.next hns hd
    · have hms : x ∈ s.2.l := by simpa [memB] using hb
      refine M.sat_ok ⟨?_, ?_⟩
      · show s.1 = _
        rw [(firsts_take i hx).2 fun z => (hmin.mp z) hms]
        exact hg
      · rw [htk]
        exact hs.skip hms
  · rw [hg, List.take_length]; rfl
end PM
namespace G
open PySem L2
namespace M
variable {α β γ σ ρ : Type}
theorem foldC_find {f : Unit → α → M (Ct Unit ρ)} (p : α → Bool) (g : α → ρ) (h : ∀ x, f () x = if p x then .ok (.rt (g x)) else .ok (.nx ())) : ∀ xs : List α, foldC f () xs = .ok (match xs.find? p with | some x => .rt (g x) | none => .nx ())
  | [] => rfl
  | x :: xs => by
    simp only [foldC]
    rw [h x]
    cases hp : p x with
    | true => rw [if_pos rfl, List.find?_cons_of_pos hp]; rfl
    | false => rw [if_neg (by simp), List.find?_cons_of_neg (by simp [hp])]; exact foldC_find p g h xs
theorem fold_find {f : Unit → α → M Unit} (p : α → Bool) (g : α → PX) (h : ∀ x, f () x = if p x then .exc (g x) else .ok ()) : ∀ xs : List α, fold f () xs = (match xs.find? p with | some x => .exc (g x) | none => .ok ())
  | [] => rfl
  | x :: xs => by
    simp only [fold]
    rw [h x]
    cases hp : p x with
    | true => rw [if_pos rfl, List.find?_cons_of_pos hp]; rfl
    | false => rw [if_neg (by simp), List.find?_cons_of_neg (by simp [hp])]; exact fold_find p g h xs
end M
end G
namespace PM
open PySem L2 G
structure GoodP (many : Int) (free : List (Int × Int)) : Prop where
  n0 : 0 ≤ many
  fr : ∀ x ∈ free, 0 ≤ x.1 ∧ x.1 < 2 * many ∧ 0 ≤ x.2 ∧ x.2 < 2 * many
theorem paired_ok {many : Int} {free : List (Int × Int)} (g : GoodP many free) (h1 : many ≤ 100) (hl : free.length ≤ 200) : m_PairedWebX_initX_m many free = .ok ⟨many, ⟨free⟩⟩ := by
  unfold m_PairedWebX_initX_m
  rw [if_neg (by simp; omega), if_neg (by simp; omega)]
  simp only [M.ok_bind]
  rw [M.fold_unit fun x hx => ?_]
  · simp only [M.ok_bind]
    rw [M.comp_map]
    simp only [M.ok_bind]
    have : (free.map fun x9 : Int × Int => (x9.1, x9.2)) = free := List.map_id free
    rw [this]
  · obtain ⟨a, b, c, d⟩ := g.fr x hx
    simp only [M.fold]
    rw [if_neg (by simp; omega), M.ok_bind, if_neg (by simp; omega)]
    rfl
def pairTies (n : Nat) : List (Int × Int) := (rngL 0 n).map fun k => (2 * k, 2 * k + 1)
theorem all_ties_eq {n : Nat} {free : List (Int × Int)} (hn : n ≤ 1000) (hl : free.length ≤ 1000) : m_PairedWeb_all_ties_m ⟨(n : Int), ⟨free⟩⟩ = .ok ⟨pairTies n ++ free⟩ := by
  unfold m_PairedWeb_all_ties_m
  rw [M.rangeN (by omega)]
  simp only [M.ok_bind]
  rw [M.comp_map]
  simp only [M.ok_bind]
  unfold M.catT
  rw [M.asrt_pos ?_]
  · rfl
  · simp only [List.length_map, rngL_len]
    exact Nat.le_of_lt (small1k (by omega))
def tiesBut (n : Nat) (free : List (Int × Int)) (pair : Int) : List (Int × Int) := ((rngL 0 n).filter fun x => !decide (x = pair)).map (fun k => (2 * k, 2 * k + 1)) ++ free
theorem enumL_app {α : Type} (xs ys : List α) : M.enumL (xs ++ ys) = M.enumL xs ++ ys.zipIdx.map fun p => ((p.2 : Int) + xs.length, p.1) := by
  unfold M.enumL
  rw [List.zipIdx_append, List.map_append]
  congr 1
  rw [List.zipIdx_eq_map_add, List.map_map]
  refine List.map_congr_left fun p _ => ?_
  simp [Nat.add_comm]
theorem enum_but {n : Nat} {free : List (Int × Int)} {pair : Int} (hp : pair < n) : ((M.enumL (pairTies n ++ free)).filter fun x => !decide (x.1 = pair)).map (fun x => x.2) = tiesBut n free pair := by
  have h1 : ∀ m : Nat, ((M.enumL (pairTies m)).filter fun x => !decide (x.1 = pair)).map (fun x => x.2) = ((rngL 0 m).filter fun x => !decide (x = pair)).map (fun k => (2 * k, 2 * k + 1)) := by
    intro m
    induction m with
    | zero => rfl
    | succ m ih =>
      have e : pairTies (m + 1) = pairTies m ++ [(2 * (0 + (m : Int)), 2 * (0 + (m : Int)) + 1)] := by unfold pairTies; rw [rngL_succ, List.map_append]; rfl
      have hl : (pairTies m).length = m := by unfold pairTies; rw [List.length_map, rngL_len]
      rw [e, enumL_app, List.filter_append, List.map_append, ih, rngL_succ, List.filter_append, List.map_append, hl]
      congr 1
      simp only [List.zipIdx_cons, List.zipIdx_nil, List.map_cons, List.map_nil, List.filter_cons, List.filter_nil]
      have e2 : ((0 : Nat) : Int) + (m : Int) = 0 + (m : Int) := by omega
      rw [e2]
      by_cases h : (0 : Int) + (m : Int) = pair
      · rw [decide_eq_true h]; rfl
      · rw [decide_eq_false h]; rfl
  rw [enumL_app, List.filter_append, List.map_append, h1]
  unfold tiesBut
  congr 1
  rw [List.filter_eq_self.mpr ?_]
  · rw [List.map_map]
    exact List.zipIdx_map_fst 0 free
  · intro x hx
    rw [List.mem_map] at hx
    obtain ⟨p, _, rfl⟩ := hx
    have hl : (pairTies n).length = n := by unfold pairTies; rw [List.length_map, rngL_len]
    simp only [hl]
    have : ((p.2 : Int) + (n : Int)) ≠ pair := by omega
    simpa using this
theorem rngL_nodup' (lo : Int) (n : Nat) : (rngL lo n).Nodup := by
  unfold rngL
  exact List.pairwise_map.mpr (List.Pairwise.imp (fun h z => h (by omega)) List.nodup_range)
/-- a group that holds both -/
theorem any_group {pts : List Int} {ties : List (Int × Int)} (hn : pts.Nodup) {a b : Int} (ha : a ∈ pts) : ((groupsOf pts ties).map fun g => memB a g && memB b g).any id = decide (Reach pts ties a b) := by
  rw [Bool.eq_iff_iff, List.any_eq_true, decide_eq_true_eq]
  constructor
  · rintro ⟨x, hx, e⟩
    rw [List.mem_map] at hx
    obtain ⟨g, hg, rfl⟩ := hx
    obtain ⟨p, _, _, rfl⟩ := groups_at hn hg
    simp only [id, Bool.and_eq_true, memB_iff, mem_comp] at e
    exact e.1.2.symm.trans e.2.2
  · intro hr
    obtain ⟨p, hp, hm, h⟩ := exists_min (ties := ties) hn ha
    refine ⟨true, ?_, rfl⟩
    rw [List.mem_map]
    refine ⟨compOf pts ties p, List.mem_map.mpr ⟨p, mem_firsts.mpr ⟨mem_isort.mpr hp, hm⟩, rfl⟩, ?_⟩
    rw [Bool.and_eq_true, memB_iff, memB_iff, mem_comp, mem_comp]
    exact ⟨⟨ha, h⟩, ⟨hr.mem ha, h.trans hr⟩⟩
end PM
namespace PM
open PySem L2 G
theorem setIx_ok {α : Type} {xs : List α} {i : Int} {j : Nat} {y : α} (hi : i = j) (hj : j < xs.length) : M.setIx xs (.ok i) (.ok y) = .ok (xs.set j y) := by
  unfold M.setIx
  simp only [M.ok_bind]
  have : ixN xs.length i = some j := by
    subst hi
    unfold ixN
    rw [if_pos (by omega), if_pos (by omega)]
    simp
  rw [this]
theorem draws_len (c : Int) {m : Int} (h0 : 0 ≤ m) (h1 : m ≤ 1000) : ∃ ds, l_draws_m c m = .ok ds ∧ ds.length ≤ 1000 := by
  suffices M.sat (l_draws_m c m) fun ds => ds.length ≤ 1000 from this
  unfold l_draws_m
  simp only [M.ok_bind]
  rw [M.range_ok h0 (by omega)]
  simp only [M.ok_bind]
  refine M.sat_bind (M.sat_fold (fun i s => s.2.2.length ≤ i) (Nat.le_refl 0) fun i x s hx hs => ?_) fun s hs => M.sat_ok (by rw [rngL_len] at hs; omega)
  have hi := (rngL_get hx).1
  refine M.sat_if (fun _ => ?_) fun _ => ?_
  · exact M.sat_bind (M.sat_push (R := fun y => y.length ≤ i + 1) (by omega) (M.sat_ok (by simp; omega))) fun y hy => M.sat_ok hy
  · exact M.sat_bind (M.sat_push (R := fun y => y.length ≤ i + 1) (by omega) (M.sat_ok (by simp; omega))) fun y hy => M.sat_ok hy
end PM

/-! PW: wirings: what the shared makers make, and that Wiring takes it. -/
namespace PM
open PySem L2 G
theorem rngL_nodup (lo : Int) (n : Nat) : (rngL lo n).Nodup := by
  unfold rngL
  exact List.pairwise_map.mpr (List.Pairwise.imp (fun h z => h (by omega)) List.nodup_range)
theorem rangeL_ok {n : Int} (h0 : 0 ≤ n) (h1 : n ≤ 100000) : M.rangeL 0 n = .ok (rngL 0 n.toNat) := by
  unfold M.rangeL
  rw [M.asrt_pos ⟨by decide, by decide, by omega, by omega, by omega⟩, Int.sub_zero]
theorem perm_erase {α : Type} : ∀ (ys : List α) (k : Nat) (y : α), ys[k]? = some y → (y :: ys.eraseIdx k).Perm ys
  | _ :: _, 0, _, h => by cases h; exact .refl _
  | y0 :: ys, k + 1, y, h => (List.Perm.swap y0 y (ys.eraseIdx k)).trans ((perm_erase ys k y h).cons y0)
theorem appendPop_at {α : Type} {xs ys : List α} {n : Int} {y : α} (h0 : 0 ≤ n) (h1 : n < 100000000) (hy : ys[n.toNat]? = some y) (hl : xs.length ≤ 100000) : M.appendPop xs ys (.ok n) = .ok (xs ++ [y], ys.eraseIdx n.toNat) := by
  unfold M.appendPop
  simp only [M.ok_bind]
  rw [M.asrt_pos h0, M.popAt_at h0 h1 hy]
  simp only [M.ok_bind]
  rw [M.push_small hl]
  rfl
/-- the leaves of links, in their order -/
def flat (L : List (Int × Int)) : List Int := L.flatMap fun x => [x.1, x.2]
def parts (N : List (T3 Str Int Int)) : List Int := N.flatMap fun x => [x.b, x.c]
theorem flat_app (a b : List (Int × Int)) : flat (a ++ b) = flat a ++ flat b := List.flatMap_append
theorem parts_app (a b : List (T3 Str Int Int)) : parts (a ++ b) = parts a ++ parts b := List.flatMap_append
structure GoodL (L : List (Int × Int)) : Prop where
  pos : 0 < L.length
  most : L.length ≤ 40
  pm : (flat L).Perm (rngL 0 (2 * L.length))
structure GoodN (m : Nat) (N : List (T3 Str Int Int)) : Prop where
  nn : N.length ≤ 100
  kd : ∀ x ∈ N, x.a = "both" ∨ x.a = "together"
  np : (parts N).Nodup
  nr : ∀ (k : Nat) x, N[k]? = some x → (0 ≤ x.b ∧ x.b < 2 * (m : Int) + k) ∧ (0 ≤ x.c ∧ x.c < 2 * (m : Int) + k)
theorem flat_rows (row : List Int) : ∀ m : Nat, 2 * m ≤ row.length → flat ((rngL 0 m).map fun x => (row.getD (2 * x).toNat 0, row.getD (2 * x + 1).toNat 0)) = row.take (2 * m) := by
  intro m
  induction m with
  | zero => intro _; rfl
  | succ m ih =>
    intro h
    rw [rngL_succ, List.map_append, flat_app, ih (by omega)]
    have e1 : row[2 * m]? = some row[2 * m] := by simp [show 2 * m < row.length by omega]
    have e2 : row[2 * m + 1]? = some row[2 * m + 1] := by simp [show 2 * m + 1 < row.length by omega]
    have e3 : row.take (2 * m + 1 + 1) = row.take (2 * m) ++ [row[2 * m]] ++ [row[2 * m + 1]] := by rw [List.take_add_one, List.take_add_one, e1, e2]; rfl
    rw [show 2 * (m + 1) = 2 * m + 1 + 1 by omega, e3]
    have k1 : (2 * (0 + (m : Int))).toNat = 2 * m := by omega
    have k2 : (2 * (0 + (m : Int)) + 1).toNat = 2 * m + 1 := by omega
    show _ ++ ([row.getD _ 0, row.getD _ 0] : List Int) = _
    rw [k1, k2, List.getD_eq_getElem?_getD, List.getD_eq_getElem?_getD, e1, e2, List.append_assoc]
    rfl
theorem links_sat (d : List Int) {n : Int} (h0 : 1 ≤ n) (h1 : n ≤ 40) : M.sat (l_links_m d n) fun L => GoodL L ∧ (L.length : Int) ≤ n := by
  unfold l_links_m
  simp only [M.ok_bind, pick_eq]
  have hm := pick_range (d := d) (k := 0) (m := n) h0
  generalize pick d 0 n = p0 at hm
  rw [rangeL_ok (by omega) (by omega), M.range_ok (n := 2 * (1 + p0)) (by omega) (by omega), M.range_ok (n := 1 + p0) (by omega) (by omega)]
  simp only [M.ok_bind]
  obtain ⟨m, hmn⟩ : ∃ m : Nat, 1 + p0 = m := ⟨(1 + p0).toNat, by omega⟩
  rw [hmn]
  have e2m : (2 * (m : Int)).toNat = 2 * m := by omega
  rw [e2m, show ((m : Int)).toNat = m by omega]
  refine M.sat_bind (M.sat_fold (fun i (s : List Int × List Int) => (s.2 ++ s.1).Perm (rngL 0 (2 * m)) ∧ s.2.length = i ∧ s.1.length + i = 2 * m) ⟨by simp, rfl, by show (rngL 0 (2 * m)).length + 0 = _; rw [rngL_len]; rfl⟩ fun i x s hx ⟨hp, hl, hl2⟩ => ?_) fun s ⟨hp, hl, hl2⟩ => ?_
  · have hi := (rngL_get hx).1
    have hr := pick_range (d := d) (k := 1 + x) (m := (s.1.length : Int)) (by omega)
    generalize pick d (1 + x) (s.1.length : Int) = k at hr
    obtain ⟨y, hy, _⟩ := M.ix_some hr.1 hr.2
    rw [appendPop_at hr.1 (by omega) hy (by omega)]
    refine ⟨_, rfl, ?_, by simp; omega, ?_⟩
    · refine List.Perm.trans ?_ hp
      show ((s.2 ++ [y]) ++ s.1.eraseIdx k.toNat).Perm _
      rw [List.append_assoc]
      exact List.Perm.append_left _ (perm_erase _ _ _ hy)
    · show (s.1.eraseIdx k.toNat).length + _ = _
      rw [List.length_eraseIdx, if_pos (by omega)]; omega
  · rw [rngL_len] at hl hl2
    have h1n : s.1 = [] := List.eq_nil_of_length_eq_zero (by omega)
    rw [h1n, List.append_nil] at hp
    rw [M.comp_mapM (fun x => (s.2.getD (2 * x).toNat 0, s.2.getD (2 * x + 1).toNat 0)) fun x hx => ?_]
    · refine ⟨_, rfl, ⟨?_, ?_, ?_⟩, ?_⟩
      · rw [List.length_map, rngL_len]; omega
      · rw [List.length_map, rngL_len]; omega
      · rw [flat_rows _ _ (by omega), List.length_map, rngL_len, List.take_of_length_le (by omega)]; exact hp
      · rw [List.length_map, rngL_len]; omega
    · obtain ⟨g0, g1⟩ := mem_rngL.mp hx
      rw [M.ix_getD 0 (by omega) (by omega), M.ix_getD 0 (by omega) (by omega)]
      rfl
theorem nodes_sat (d : List Int) (at_ : Int) {L : List (Int × Int)} (g : GoodL L) : M.sat (l_any_nodes_m d at_ L) fun N => GoodN L.length N := by
  unfold l_any_nodes_m
  simp only [M.ok_bind, pick_eq]
  have g1 := g.pos
  have g2 := g.most
  rw [rangeL_ok (by omega) (by omega)]
  simp only [M.ok_bind]
  have hk := pick_range (d := d) (k := at_) (m := 2 * (L.length : Int)) (by omega)
  generalize pick d at_ (2 * (L.length : Int)) = kk at hk
  rw [M.range_ok hk.1 (by omega)]
  simp only [M.ok_bind]
  generalize hm : L.length = m at *
  have e2m : (2 * (m : Int)).toNat = 2 * m := by omega
  rw [e2m]
  refine M.sat_bind (M.sat_fold (fun i (s : List Int × List (T3 Str Int Int)) => (parts s.2 ++ s.1).Perm (rngL 0 (2 * m + i)) ∧ s.1.length + i = 2 * m ∧ s.2.length = i ∧ (∀ x ∈ s.2, x.a = "both" ∨ x.a = "together") ∧ ∀ (k : Nat) x, s.2[k]? = some x → (0 ≤ x.b ∧ x.b < 2 * (m : Int) + k) ∧ (0 ≤ x.c ∧ x.c < 2 * (m : Int) + k))
    ⟨.refl _, by show (rngL 0 (2 * m)).length + 0 = _; rw [rngL_len]; rfl, rfl, fun x hx => (nomatch hx), fun k x hx => (nomatch hx)⟩ fun i x s hx ⟨hp, hl, hn, hkd, hr⟩ => ?_) fun s ⟨hp, hl, hn, hkd, hr⟩ => M.sat_ok ⟨by rw [rngL_len] at hn; omega, hkd, ?_, hr⟩
  · obtain ⟨hi, hxi⟩ := rngL_get hx
    have r1 := pick_range (d := d) (k := at_ + 1 + 3 * x) (m := (s.1.length : Int)) (by omega)
    generalize pick d (at_ + 1 + 3 * x) (s.1.length : Int) = k1 at r1
    obtain ⟨y1, hy1, _⟩ := M.ix_some r1.1 r1.2
    rw [M.popAt_at r1.1 (by omega) hy1]
    simp only [M.ok_bind]
    have hl1 : (s.1.eraseIdx k1.toNat).length + 1 = s.1.length := by rw [List.length_eraseIdx, if_pos (by omega)]; omega
    have p1 := perm_erase _ _ _ hy1
    generalize s.1.eraseIdx k1.toNat = r2 at hl1 p1
    have q1 := pick_range (d := d) (k := at_ + 2 + 3 * x) (m := (r2.length : Int)) (by omega)
    generalize pick d (at_ + 2 + 3 * x) (r2.length : Int) = k2 at q1
    obtain ⟨y2, hy2, _⟩ := M.ix_some q1.1 q1.2
    rw [M.popAt_at q1.1 (by omega) hy2]
    simp only [M.ok_bind]
    have hl2 : (r2.eraseIdx k2.toNat).length + 1 = r2.length := by rw [List.length_eraseIdx, if_pos (by omega)]; omega
    have p2 := perm_erase _ _ _ hy2
    generalize r2.eraseIdx k2.toNat = r3 at hl2 p2
    refine M.sat_bind (R1 := fun z : Str => z = "both" ∨ z = "together") (M.sat_if (fun _ => M.sat_ok (.inr rfl)) fun _ => M.sat_ok (.inl rfl)) fun kd hkd1 => ?_
    rw [M.push_small (by omega)]
    simp only [M.ok_bind]
    rw [M.push_small (by omega)]
    have hp3 : (y1 :: y2 :: r3).Perm s.1 := (p2.cons y1).trans p1
    have hp4 : (parts s.2 ++ (y1 :: y2 :: r3)).Perm (rngL 0 (2 * m + i)) := (List.Perm.append_left _ hp3).trans hp
    refine ⟨_, rfl, ?_, by simp; omega, by simp; omega, ?_, ?_⟩
    · show (parts (s.2 ++ [⟨kd, y1, y2⟩]) ++ (r3 ++ [2 * (m : Int) + x])).Perm _
      rw [parts_app, ← Nat.add_assoc, rngL_succ]
      have e : parts s.2 ++ parts [⟨kd, y1, y2⟩] ++ (r3 ++ [2 * (m : Int) + x]) = (parts s.2 ++ (y1 :: y2 :: r3)) ++ [2 * (m : Int) + x] := by
        show parts s.2 ++ [y1, y2] ++ _ = _
        simp
      rw [e, hxi]
      have e5 : (2 * (m : Int) + (0 + (i : Int))) = 0 + ((2 * m + i : Nat) : Int) := by omega
      rw [e5]
      exact hp4.append_right _
    · intro z hz
      rcases List.mem_append.mp hz with hz | hz
      · exact hkd z hz
      · rw [List.mem_singleton] at hz; subst hz; exact hkd1
    · intro k z hz
      by_cases hk' : k < s.2.length
      · rw [List.getElem?_append_left hk'] at hz
        exact hr k z hz
      · rw [List.getElem?_append_right (by omega)] at hz
        have hk0 : k - s.2.length = 0 := by
          cases hq : k - s.2.length with
          | zero => rfl
          | succ n => rw [hq] at hz; cases hz
        rw [hk0] at hz
        cases hz
        have m1 : y1 ∈ rngL 0 (2 * m + i) := hp4.mem_iff.mp (by simp)
        have m2 : y2 ∈ rngL 0 (2 * m + i) := hp4.mem_iff.mp (by simp)
        rw [mem_rngL] at m1 m2
        refine ⟨⟨m1.1, ?_⟩, m2.1, ?_⟩
        · show y1 < _; omega
        · show y2 < _; omega
  · exact (List.nodup_append.mp ((List.Perm.nodup_iff hp).mpr (rngL_nodup _ _))).1
theorem flat_split {L : List (Int × Int)} {i : Nat} {x : Int × Int} (h : L[i]? = some x) : flat L = flat (L.take i) ++ (x.1 :: x.2 :: flat (L.drop (i + 1))) := by
  obtain ⟨hl, e⟩ := List.getElem?_eq_some_iff.mp h
  have : L = L.take i ++ ([x] ++ L.drop (i + 1)) := by
    conv => lhs; rw [← List.take_append_drop i L]
    rw [List.drop_eq_getElem_cons hl, e]; rfl
  conv => lhs; rw [this]
  rw [flat_app, flat_app]; rfl
theorem parts_split {L : List (T3 Str Int Int)} {i : Nat} {x : T3 Str Int Int} (h : L[i]? = some x) : parts L = parts (L.take i) ++ (x.b :: x.c :: parts (L.drop (i + 1))) := by
  obtain ⟨hl, e⟩ := List.getElem?_eq_some_iff.mp h
  have : L = L.take i ++ ([x] ++ L.drop (i + 1)) := by
    conv => lhs; rw [← List.take_append_drop i L]
    rw [List.drop_eq_getElem_cons hl, e]; rfl
  conv => lhs; rw [this]
  rw [parts_app, parts_app]; rfl
theorem nodup_mid2 {a b : List Int} {x y : Int} (h : (a ++ (x :: y :: b)).Nodup) : x ∉ a ∧ y ∉ a ∧ y ≠ x := by
  obtain ⟨_, h2, h3⟩ := List.nodup_append.mp h
  refine ⟨fun hx => h3 x hx x (by simp) rfl, fun hx => h3 y hx y (by simp) rfl, ?_⟩
  rw [List.nodup_cons] at h2
  exact fun e => h2.1 (by simp [e])
theorem sadd_new {s : List Int} {x : Int} (h : x ∉ s) (hl : s.length ≤ 1000) : M.sadd ⟨s⟩ (.ok x) = .ok ⟨s ++ [x]⟩ := by
  unfold M.sadd
  simp only [M.ok_bind]
  rw [M.asrt_pos (show s.length + 1 < PySem.scanBound from Nat.lt_of_le_of_lt (show s.length + 1 ≤ 1001 by omega) (by decide))]
  unfold isAdd
  rw [if_neg h]
theorem memB_no {x : Int} {s : List Int} (h : x ∉ s) : memB x s = false := by simpa [memB] using h
theorem enumL_get' {α : Type} {xs : List α} {i : Nat} {p : Int × α} (h : (M.enumL xs)[i]? = some p) : p.1 = i ∧ xs[i]? = some p.2 := by
  unfold M.enumL at h
  rw [List.getElem?_map, List.getElem?_zipIdx] at h
  cases hx : xs[i]? with
  | none => rw [hx] at h; cases h
  | some y => rw [hx] at h; cases h; exact ⟨by simp, rfl⟩
theorem flat_len (L : List (Int × Int)) : (flat L).length = 2 * L.length := by
  induction L with
  | nil => rfl
  | cons x L ih => show (x.1 :: x.2 :: flat L).length = _; simp [ih]; omega
theorem parts_len (L : List (T3 Str Int Int)) : (parts L).length = 2 * L.length := by
  induction L with
  | nil => rfl
  | cons x L ih => show (x.b :: x.c :: parts L).length = _; simp [ih]; omega
theorem flat_succ {L : List (Int × Int)} {i : Nat} {x : Int × Int} (h : L[i]? = some x) : flat (L.take (i + 1)) = flat (L.take i) ++ [x.1] ++ [x.2] := by
  rw [List.take_add_one, h, flat_app]
  show _ ++ [x.1, x.2] = _
  simp
theorem parts_succ {L : List (T3 Str Int Int)} {i : Nat} {x : T3 Str Int Int} (h : L[i]? = some x) : parts (L.take (i + 1)) = parts (L.take i) ++ [x.b] ++ [x.c] := by
  rw [List.take_add_one, h, parts_app]
  show _ ++ [x.b, x.c] = _
  simp
theorem fold2 {σ α : Type} {f : σ → α → M σ} {s0 s1 s2 : σ} {a b : α} (h1 : f s0 a = .ok s1) (h2 : f s1 b = .ok s2) : M.fold f s0 [a, b] = .ok s2 := by
  show (f s0 a >>= fun s => M.fold f s [b]) = _
  rw [h1]
  show (f s1 b >>= fun s => M.fold f s []) = _
  rw [h2]; rfl
theorem GoodL.mem {L : List (Int × Int)} (g : GoodL L) {i : Nat} {x : Int × Int} (h : L[i]? = some x) : (0 ≤ x.1 ∧ x.1 < 2 * L.length) ∧ (0 ≤ x.2 ∧ x.2 < 2 * L.length) := by
  have m1 : x.1 ∈ flat L := by rw [flat_split h]; simp
  have m2 : x.2 ∈ flat L := by rw [flat_split h]; simp
  have q1 := mem_rngL.mp (g.pm.mem_iff.mp m1)
  have q2 := mem_rngL.mp (g.pm.mem_iff.mp m2)
  omega
theorem GoodL.nd {L : List (Int × Int)} (g : GoodL L) : (flat L).Nodup := (List.Perm.nodup_iff g.pm).mpr (rngL_nodup _ _)
theorem check_links_ok {L : List (Int × Int)} (g : GoodL L) : p_check_links_m L = .ok () := by
  unfold p_check_links_m
  simp only [M.ok_bind]
  rw [M.fold_eq (⟨[]⟩ : IS) (fun i => (⟨flat (L.take i)⟩ : IS)) rfl fun i p hp => ?_]
  · rfl
  obtain ⟨e1, hx⟩ := enumL_get' hp
  obtain ⟨i', x⟩ := p
  cases (show i' = i from e1)
  have hx' : L[i]? = some x := hx
  have hm := g.mem hx'
  have hnd := g.nd
  rw [flat_split hx'] at hnd
  obtain ⟨n1, n2, n3⟩ := nodup_mid2 hnd
  have hl : (flat (L.take i)).length ≤ 80 := by rw [flat_len, List.length_take]; have := g.most; omega
  rw [fold2 (s1 := ⟨flat (L.take i) ++ [x.1]⟩) (s2 := ⟨flat (L.take (i + 1))⟩)]
  · rfl
  · rw [memB_no n1, if_neg (by simp; omega), sadd_new n1 (by omega)]; rfl
  · have n4 : x.2 ∉ flat (L.take i) ++ [x.1] := by simp [n2, n3]
    rw [memB_no n4, if_neg (by simp; omega), sadd_new n4 (by simp; omega), flat_succ hx']; rfl
theorem check_nodes_ok {m : Nat} {N : List (T3 Str Int Int)} (g : GoodN m N) : p_check_nodes_m (2 * (m : Int)) N = .ok () := by
  unfold p_check_nodes_m
  simp only [M.ok_bind]
  rw [M.fold_eq (⟨[]⟩ : IS) (fun i => (⟨parts (N.take i)⟩ : IS)) rfl fun i p hp => ?_]
  · rfl
  obtain ⟨e1, hx⟩ := enumL_get' hp
  obtain ⟨i', x⟩ := p
  cases (show i' = i from e1)
  have hx' : N[i]? = some x := hx
  have hm := g.nr i x hx'
  have hk := g.kd x (List.mem_of_getElem? hx')
  have hnd := g.np
  rw [parts_split hx'] at hnd
  obtain ⟨n1, n2, n3⟩ := nodup_mid2 hnd
  have hl : (parts (N.take i)).length ≤ 200 := by rw [parts_len, List.length_take]; have := g.nn; omega
  have hkd : memB x.a (⟨["both", "together"]⟩ : Tup Str).l = true := by
    rcases hk with h | h <;> rw [h] <;> simp [memB]
  rw [if_neg (by simp [hkd])]
  simp only [M.ok_bind]
  rw [fold2 (s1 := ⟨parts (N.take i) ++ [x.b]⟩) (s2 := ⟨parts (N.take (i + 1))⟩)]
  · rfl
  · rw [memB_no n1, if_neg (by simp; omega), sadd_new n1 (by omega)]; rfl
  · have n4 : x.c ∉ parts (N.take i) ++ [x.b] := by simp [n2, n3]
    rw [memB_no n4, if_neg (by simp; omega), sadd_new n4 (by simp; omega), parts_succ hx']; rfl
theorem lookup_app {β : Type} (a b : List (Int × β)) (m : Int) : (a ++ b).lookup m = match a.lookup m with | some x => some x | none => b.lookup m := by
  induction a with
  | nil => rfl
  | cons p a ih =>
    show List.lookup m (p :: (a ++ b)) = _
    rw [List.lookup_cons, List.lookup_cons]
    split
    · rfl
    · exact ih
theorem lookup_putI {β : Type} (kv : List (Int × β)) (k : Int) (v : β) (m : Int) : (putI kv k v).lookup m = if m = k then some v else kv.lookup m := by
  unfold putI
  by_cases hs : (kv.lookup k).isSome = true
  · rw [if_pos hs]
    induction kv with
    | nil => cases hs
    | cons p kv ih =>
      rw [List.map_cons, List.lookup_cons, List.lookup_cons]
      rw [List.lookup_cons] at hs
      by_cases hp : p.1 = k
      · rw [if_pos hp]
        by_cases hm : m = k
        · rw [if_pos hm, beq_iff_eq.mpr hm]
        · have e1 : (m == k) = false := by simpa using hm
          have e2 : (m == p.1) = false := by rw [hp]; exact e1
          show (match (m == k) with | true => _ | false => _) = _
          rw [e1, if_neg hm, e2]
          show List.lookup m (kv.map _) = List.lookup m kv
          clear ih hs
          induction kv with
          | nil => rfl
          | cons q kv ih2 =>
            rw [List.map_cons, List.lookup_cons, List.lookup_cons]
            by_cases hq : q.1 = k
            · rw [if_pos hq]
              show (match (m == k) with | true => _ | false => _) = _
              rw [e1, show (m == q.1) = false by rw [hq]; exact e1]
              exact ih2
            · rw [if_neg hq]
              split
              · rfl
              · exact ih2
      · have e3 : (k == p.1) = false := by simpa using fun z => hp z.symm
        rw [e3] at hs
        rw [if_neg hp]
        by_cases hm : m = p.1
        · have : m ≠ k := fun z => hp (by rw [← hm, z])
          rw [beq_iff_eq.mpr hm, if_neg this]
        · rw [show (m == p.1) = false by simpa using hm]
          exact ih hs
  · rw [if_neg hs, lookup_app]
    by_cases hm : m = k
    · subst hm
      rw [if_pos rfl]
      cases hl : kv.lookup m with
      | some x => rw [hl] at hs; exact absurd rfl hs
      | none => show List.lookup m [(m, v)] = _; rw [List.lookup_cons, beq_self_eq_true]
    · rw [if_neg hm]
      cases hl : kv.lookup m with
      | some x => rfl
      | none => show List.lookup m [(k, v)] = _; rw [List.lookup_cons, show (m == k) = false by simpa using hm]; rfl
theorem dput_ok {x : DI Int} {n y : Int} (h : x.kv.length ≤ 10000) : M.dput x (.ok n) (.ok y) = .ok ⟨putI x.kv n y⟩ := by
  unfold M.dput
  simp only [M.ok_bind]
  rw [M.asrt_pos (small1k (by omega))]
theorem mem_take_flat {L : List (Int × Int)} {i j : Nat} {y : Int × Int} (hj : j < i) (h : L[j]? = some y) : y.1 ∈ flat (L.take i) ∧ y.2 ∈ flat (L.take i) := by
  have : (L.take i)[j]? = some y := by rw [List.getElem?_take, if_pos hj]; exact h
  rw [flat_split this]
  simp
theorem wiring_ok {L : List (Int × Int)} {N : List (T3 Str Int Int)} (g : GoodL L) (h : GoodN L.length N) : ∃ pd od, m_WiringX_initX_m L N = .ok ⟨⟨L⟩, ⟨N⟩, pd, od⟩ ∧
    (∀ t, (pd.kv.lookup t).isSome = true ↔ t ∈ parts N) ∧ ∀ (j : Nat) x, L[j]? = some x → od.kv.lookup x.1 = some (j : Int) ∧ od.kv.lookup x.2 = some (j : Int) := by
  have g1 := g.pos
  have g2 := g.most
  have h1 := h.nn
  suffices M.sat (m_WiringX_initX_m L N) fun r : WiringM => ∃ pd od, r = ⟨⟨L⟩, ⟨N⟩, pd, od⟩ ∧ (∀ t, (pd.kv.lookup t).isSome = true ↔ t ∈ parts N) ∧ ∀ (j : Nat) x, L[j]? = some x → od.kv.lookup x.1 = some (j : Int) ∧ od.kv.lookup x.2 = some (j : Int) by
    obtain ⟨r, e, pd, od, er, q1, q2⟩ := this
    exact ⟨pd, od, by rw [e, er], q1, q2⟩
  unfold m_WiringX_initX_m
  rw [if_neg (by rw [decide_eq_true_eq]; omega), if_neg (by rw [decide_eq_true_eq]; omega), check_links_ok g]
  simp only [M.ok_bind]
  rw [check_nodes_ok h]
  simp only [M.ok_bind]
  rw [M.comp_mapM (fun x : Int × Int => x) (fun x _ => rfl), M.comp_mapM (fun x : T3 Str Int Int => x) (fun x _ => rfl), List.map_id', List.map_id']
  simp only [M.ok_bind]
  refine M.sat_bind (M.sat_fold (fun i (s : DI Int) => s.kv.length ≤ 2 * i ∧ ∀ t, (s.kv.lookup t).isSome = true ↔ t ∈ parts (N.take i)) ⟨Nat.le_refl 0, fun t => by simp [parts]⟩ fun i p s hp ⟨hl, hs⟩ => ?_) fun pd ⟨_, hpd⟩ => ?_
  · obtain ⟨e1, hx⟩ := enumL_get' hp
    obtain ⟨i', x⟩ := p
    cases (show i' = i from e1)
    have hx' : N[i]? = some x := hx
    have hi := (List.getElem?_eq_some_iff.mp hx').1
    have hl2 : (putI s.kv x.b (i : Int)).length ≤ s.kv.length + 1 := putI_len _ _ _
    have hl3 : (putI (putI s.kv x.b (i : Int)) x.c (i : Int)).length ≤ (putI s.kv x.b (i : Int)).length + 1 := putI_len _ _ _
    rw [dput_ok (by omega)]
    simp only [M.ok_bind]
    rw [dput_ok (by show (putI s.kv x.b (i : Int)).length ≤ _; omega)]
    refine ⟨_, rfl, by show (putI (putI s.kv x.b (i : Int)) x.c (i : Int)).length ≤ _; omega, fun t => ?_⟩
    show ((putI (putI s.kv x.b (i : Int)) x.c (i : Int)).lookup t).isSome = true ↔ _
    rw [lookup_putI, lookup_putI, parts_succ hx']
    have := hs t
    by_cases q1 : t = x.c
    · simp [q1]
    · by_cases q2 : t = x.b
      · simp [q1, q2]
      · simp [q1, q2, this]
  · rw [M.enumL_len, List.take_length] at hpd
    refine M.sat_bind (M.sat_fold (fun i (s : DI Int) => s.kv.length ≤ 2 * i ∧ ∀ (j : Nat) y, j < i → L[j]? = some y → s.kv.lookup y.1 = some (j : Int) ∧ s.kv.lookup y.2 = some (j : Int)) ⟨Nat.le_refl 0, fun j y hj => absurd hj (Nat.not_lt_zero j)⟩ fun i p s hp ⟨hl, hs⟩ => ?_) fun od ⟨_, hod⟩ => M.sat_ok ⟨pd, od, rfl, hpd, fun j x hx => ?_⟩
    · obtain ⟨e1, hx⟩ := enumL_get' hp
      obtain ⟨i', x⟩ := p
      cases (show i' = i from e1)
      have hx' : L[i]? = some x := hx
      have hi := (List.getElem?_eq_some_iff.mp hx').1
      have hl2 : (putI s.kv x.1 (i : Int)).length ≤ s.kv.length + 1 := putI_len _ _ _
      have hl3 : (putI (putI s.kv x.1 (i : Int)) x.2 (i : Int)).length ≤ (putI s.kv x.1 (i : Int)).length + 1 := putI_len _ _ _
      rw [dput_ok (by omega)]
      simp only [M.ok_bind]
      rw [dput_ok (by show (putI s.kv x.1 (i : Int)).length ≤ _; omega)]
      refine ⟨_, rfl, by show (putI (putI s.kv x.1 (i : Int)) x.2 (i : Int)).length ≤ _; omega, fun j y hj hy => ?_⟩
      show (putI (putI s.kv x.1 (i : Int)) x.2 (i : Int)).lookup y.1 = _ ∧ (putI (putI s.kv x.1 (i : Int)) x.2 (i : Int)).lookup y.2 = _
      have hnd := g.nd
      rw [flat_split hx'] at hnd
      obtain ⟨n1, n2, n3⟩ := nodup_mid2 hnd
      rw [lookup_putI, lookup_putI, lookup_putI, lookup_putI]
      by_cases hji : j = i
      · subst hji
        rw [hx'] at hy
        cases hy
        rw [if_pos rfl, if_neg (fun z => n3 z.symm), if_pos rfl]
        exact ⟨rfl, rfl⟩
      · have hj' : j < i := by omega
        have hm := mem_take_flat hj' hy
        rw [if_neg (fun z : y.1 = x.2 => n2 (z ▸ hm.1)), if_neg (fun z : y.1 = x.1 => n1 (z ▸ hm.1)), if_neg (fun z : y.2 = x.2 => n2 (z ▸ hm.2)), if_neg (fun z : y.2 = x.1 => n1 (z ▸ hm.2))]
        exact hs j y hj' hy
    · refine hod j x ?_ hx
      rw [M.enumL_len]
      exact (List.getElem?_eq_some_iff.mp hx).1
end PM

/-! PS: _law_same of a thing and itself. -/
namespace PM
open PySem L2 G
/-- plain data of this depth, no list or tuple long -/
inductive OkU : Nat → PyData → Prop
  | none {n : Nat} : OkU (n + 1) .none
  | bool {n : Nat} (b : Bool) : OkU (n + 1) (.bool b)
  | int {n : Nat} (i : Int) : OkU (n + 1) (.int i)
  | str {n : Nat} (s : Str) : OkU (n + 1) (.str s)
  | list {n : Nat} {ds : List PyData} (hl : ds.length ≤ 100000) (h : ∀ d ∈ ds, OkU n d) : OkU (n + 1) (.list ds)
  | tuple {n : Nat} {ds : List PyData} (hl : ds.length ≤ 100000) (h : ∀ d ∈ ds, OkU n d) : OkU (n + 1) (.tuple ds)
theorem OkU.up {n : Nat} {e : PyData} (h : OkU n e) : OkU (n + 1) e := by
  induction h with
  | none => exact .none
  | bool b => exact .bool b
  | int i => exact .int i
  | str s => exact .str s
  | list hl _ ih => exact .list hl ih
  | tuple hl _ ih => exact .tuple hl ih
theorem same_items {ds : List PyData} {rec_ : PyData → PyData → M Bool} (hl : ds.length ≤ 100000) (h : ∀ d ∈ ds, rec_ d d = .ok true) :
    (M.range (ds.length : Int) >>= fun l17 => M.foldC (fun (_ : Unit) x8 => ((M.ix ds x8 >>= fun t11 => M.ix ds x8 >>= fun t12 => rec_ t11 t12) >>= fun t13 => M.ok (!t13)) >>= fun b14 => if b14 then (M.ok false >>= fun r => .ok (.rt r)) else M.ok (.nx ())) () l17 >>= fun c16 => Ct.go c16 M.ok fun (_ : Unit) => M.ok true) = .ok true := by
  rw [M.rangeN hl, M.ok_bind, M.foldC_unit _ fun z hz => ?_]
  · rfl
  · obtain ⟨h0, h1⟩ := mem_rngL.mp hz
    obtain ⟨d, hd, e⟩ := M.ix_some (xs := ds) (i := z) h0 (by omega)
    rw [e]
    simp only [M.ok_bind]
    rw [h d (List.mem_of_getElem? hd)]
    rfl
theorem same_refl {n : Nat} {e : PyData} (h : OkU n e) : l_same_m n e e = .ok true := by
  induction h with
  | none => rfl
  | @bool n b =>
    show l_same_step _ _ _ = _
    unfold l_same_step
    simp only [isNoneU, isU, tyU, isTy]
    rw [M.asrt_pos (by simp [PyData.depth])]
    simp [PyData.eqv]
  | @int n i =>
    show l_same_step _ _ _ = _
    unfold l_same_step
    simp only [isNoneU, isU, tyU, isTy]
    rw [M.asrt_pos (by simp [PyData.depth])]
    simp [PyData.eqv]
  | @str n s =>
    show l_same_step _ _ _ = _
    unfold l_same_step
    simp only [isNoneU, isU, tyU, isTy]
    rw [M.asrt_pos (by simp [PyData.depth])]
    simp [PyData.eqv]
  | @list n ds hl _ ih =>
    show l_same_step (l_same_m n) _ _ = _
    have := same_items hl ih
    unfold l_same_step
    simp only [isNoneU, isU, tyU, isTy, itemsU]
    simpa using this
  | @tuple n ds hl _ ih =>
    show l_same_step (l_same_m n) _ _ = _
    have := same_items hl ih
    unfold l_same_step
    simp only [isNoneU, isU, tyU, isTy, itemsU]
    simpa using this
end PM

namespace K27
open PySem L2 G PM
/-- the exceptions that may come up -/
def kn : XC → Bool := fun c => decide (c ∈ ([.TooLarge, .UnknownPair, .UnknownPoint] : List XC))
/-- _law_only -/
noncomputable def l_only_m (draws_here : (List Int)) (most_pairs : Int) (most_free : Int) : M (Int × (List (Int × Int))) :=
  (l_pick_m draws_here (0 : Int) (most_pairs + (1 : Int))) >>= fun many_1 =>
  (M.rangeL 0 many_1) >>= fun pool_2 =>
  (M.ok ([] : (List Int))) >>= fun order_3 =>
  (M.range many_1) >>= fun l45 =>
  M.fold (fun (s4 : ((List Int) × (List Int))) x5 =>
    M.appendPop s4.2 s4.1 (l_pick_m draws_here ((2 : Int) + x5) (s4.1.length : Int)) >>= fun p6 =>
      M.ok (p6.2, p6.1)) (pool_2, order_3) l45 >>= fun (s7 : ((List Int) × (List Int))) =>
  (M.rangeL 0 many_1) >>= fun label_8 =>
  (M.ok ([] : (List (Int × Int)))) >>= fun free_9 =>
  (M.range many_1) >>= fun l44 =>
  M.fold (fun (s10 : ((List Int) × (List (Int × Int)))) x11 =>
    (M.ix s7.2 x11) >>= fun here_12 =>
      (M.ok (⟨[]⟩ : (DI Int))) >>= fun fixed_13 =>
      ((l_pick_m draws_here (1 : Int) (most_free + (1 : Int))) >>= fun t15 => (M.range t15)) >>= fun l42 =>
      M.fold (fun (s14 : ((List (Int × Int)) × (DI Int))) x16 =>
        (M.ok (((2 : Int) + many_1) + ((6 : Int) * x16))) >>= fun at__17 =>
          ((l_pick_m draws_here at__17 many_1) >>= fun t18 => (M.ok (decide (t18 = x11)))) >>= fun b33 => if b33 then
          ((l_pick_m draws_here (at__17 + (1 : Int)) (x11 + (1 : Int))) >>= fun t19 => (M.ix s7.2 t19)) >>= fun there_20 =>
            (l_pick_m draws_here (at__17 + (2 : Int)) (2 : Int)) >>= fun which_21 =>
            ((l_pick_m draws_here (at__17 + (3 : Int)) (2 : Int)) >>= fun t22 => (M.ok (((2 : Int) * there_20) + t22))) >>= fun far_23 =>
            (if (decide (there_20 = here_12)) then
            (M.ok (((2 : Int) * here_12) + which_21)) >>= fun far_24 =>
              M.ok (s14.2, which_21, far_24)
          else
            (M.setd s14.2 (M.ix s10.1 there_20) (M.ok which_21)) >>= fun p25 =>
              M.ok (p25.1, p25.2, far_23)) >>= (fun s26 : ((DI Int) × Int × Int) =>
            (M.ok ((((2 : Int) * here_12) + s26.2.1), s26.2.2)) >>= fun tie_27 =>
            (((l_pick_m draws_here (at__17 + (4 : Int)) (2 : Int)) >>= fun t28 => (M.ok (decide (t28 = (1 : Int))))) >>= fun b32 => if b32 then
            (M.ok (s26.2.2, (((2 : Int) * here_12) + s26.2.1))) >>= fun tie_29 =>
              M.ok tie_29
          else
            M.ok tie_27) >>= (fun s30 : (Int × Int) =>
            M.insert s14.1 (l_pick_m draws_here (at__17 + (5 : Int)) ((s14.1.length : Int) + (1 : Int))) (M.ok s30) >>= fun free_31 =>
            M.ok (free_31, s26.1)))
        else
          M.ok (s14.1, s14.2)) (s10.2, fixed_13) l42 >>= fun (s34 : ((List (Int × Int)) × (DI Int))) =>
      (M.range many_1) >>= fun l41 =>
      M.fold (fun (s35 : (List Int)) x36 =>
        ((M.ix s35 x36) >>= fun t37 => (M.ok ((s34.2.kv.lookup t37).isSome))) >>= fun b39 => if b39 then
          M.setIx s35 (M.ok x36) (M.ix s35 here_12) >>= fun label_38 =>
            M.ok label_38
        else
          M.ok s35) s10.1 l41 >>= fun (s40 : (List Int)) =>
      M.ok (s40, s34.1)) (label_8, free_9) l44 >>= fun (s43 : ((List Int) × (List (Int × Int)))) =>
  (M.ok (many_1, s43.2))
/-- _law_paired -/
noncomputable def l_paired_m (draws_here : (List Int)) (most_pairs : Int) (most_free : Int) : M (Int × (List (Int × Int))) :=
  (l_pick_m draws_here (0 : Int) (most_pairs + (1 : Int))) >>= fun many_1 =>
  (M.ok ([] : (List (Int × Int)))) >>= fun free_2 =>
  ((l_pick_m draws_here (1 : Int) (most_free + (1 : Int))) >>= fun t4 => (M.range t4)) >>= fun l10 =>
  M.fold (fun (s3 : (List (Int × Int))) x5 =>
    if (decide ((0 : Int) < many_1)) then
      M.push s3 ((l_pick_m draws_here ((2 : Int) + ((2 : Int) * x5)) ((2 : Int) * many_1)) >>= fun t6 => ((l_pick_m draws_here ((3 : Int) + ((2 : Int) * x5)) ((2 : Int) * many_1)) >>= fun t7 => (M.ok (t6, t7)))) >>= fun free_8 =>
        M.ok free_8
    else
      M.ok s3) free_2 l10 >>= fun (s9 : (List (Int × Int))) =>
  (M.ok (many_1, s9))
/-- _law_some -/
noncomputable def l_some_m (draws_here : (List Int)) (at_ : Int) (items : (List Int)) (share : Int) : M (List Int) :=
  (M.ok items) >>= fun pool_1 =>
  (M.ok ([] : (List Int))) >>= fun some_here_2 =>
  (M.range (items.length : Int)) >>= fun l10 =>
  M.fold (fun (s3 : ((List Int) × (List Int))) x4 =>
    (M.popAt s3.1 (l_pick_m draws_here (at_ + ((2 : Int) * x4)) (s3.1.length : Int))) >>= fun p5 =>
      ((l_pick_m draws_here ((at_ + ((2 : Int) * x4)) + (1 : Int)) (4 : Int)) >>= fun t6 => (M.ok (decide (t6 < share)))) >>= fun b8 => if b8 then
      M.push s3.2 (M.ok p5.2) >>= fun some_here_7 =>
        M.ok (p5.1, some_here_7)
    else
      M.ok (p5.1, s3.2)) (pool_1, some_here_2) l10 >>= fun (s9 : ((List Int) × (List Int))) =>
  M.ok s9.2
/-- _law_bad -/
noncomputable def l_bad_m (draws_here : (List Int)) (at_ : Int) (taken : (List Int)) (many : Int) : M (List Int) :=
  (M.ok taken) >>= fun bad_here_1 =>
  (((l_pick_m draws_here at_ (2 : Int)) >>= fun t3 => (M.ok ((1 : Int) + t3))) >>= fun t4 => (M.range t4)) >>= fun l14 =>
  M.fold (fun (s2 : (List Int)) x5 =>
    ((l_pick_m draws_here ((at_ + (1 : Int)) + ((3 : Int) * x5)) (14 : Int)) >>= fun t6 => (M.ok (t6 - (3 : Int)))) >>= fun number_7 =>
      (((l_pick_m draws_here ((at_ + (2 : Int)) + ((3 : Int) * x5)) (7 : Int)) >>= fun t8 => (M.ok (decide (t8 = (3 : Int))))) >>= fun b12 => if b12 then
      (M.ok ((1000000000000000000000000000000 : Int) + number_7)) >>= fun number_9 =>
        M.ok number_9
    else
      M.ok number_7) >>= (fun s10 : Int =>
      if ((!memB s10 s2) && ((decide (s10 < (0 : Int))) || (decide (many ≤ s10)))) then
      M.insert s2 (l_pick_m draws_here ((at_ + (3 : Int)) + ((3 : Int) * x5)) ((s2.length : Int) + (1 : Int))) (M.ok s10) >>= fun bad_here_11 =>
        M.ok bad_here_11
    else
      M.ok s2)) bad_here_1 l14 >>= fun (s13 : (List Int)) =>
  M.ok s13
/-- _law_parts -/
noncomputable def l_parts_m (many : Int) (free : (List (Int × Int))) (taken : (List Int)) (pair : Int) : M Bool :=
  (((M.range many) >>= M.comp (fun x1 => (M.ok (!decide (x1 = pair)))) (fun x1 => (M.ok (((2 : Int) * x1), (((2 : Int) * x1) + (1 : Int)))))) >>= fun t2 => (M.cat t2 free)) >>= fun ties_3 =>
  (M.ok [((2 : Int) * pair)]) >>= fun reached_4 =>
  (M.range ((2 : Int) * many)) >>= fun l19 =>
  M.foldC (fun (s5 : (List Int)) x6 =>
    (M.ok false) >>= fun changed_7 =>
      (M.ok ties_3) >>= fun l16 =>
      M.fold (fun (s8 : ((List Int) × Bool)) x9 =>
        if ((!memB (x9.1 / (2 : Int)) taken) && (!memB (x9.2 / (2 : Int)) taken)) then
          (if ((memB x9.1 s8.1) && (!memB x9.2 s8.1)) then
            M.push s8.1 (M.ok x9.2) >>= fun reached_10 =>
              (M.ok true) >>= fun changed_11 =>
              M.ok (reached_10, changed_11)
          else
            M.ok (s8.1, s8.2)) >>= (fun s12 : ((List Int) × Bool) =>
            if ((memB x9.2 s12.1) && (!memB x9.1 s12.1)) then
            M.push s12.1 (M.ok x9.1) >>= fun reached_13 =>
              (M.ok true) >>= fun changed_14 =>
              M.ok (reached_13, changed_14)
          else
            M.ok (s12.1, s12.2))
        else
          M.ok (s8.1, s8.2)) (s5, changed_7) l16 >>= fun (s15 : ((List Int) × Bool)) =>
      if (!s15.2) then
      M.ok (.bk s15.1)
    else
      M.ok (.nx s15.1)) reached_4 l19 >>= fun c18 => Ct.go c18 (fun (r : Empty) => nomatch r) fun (s17 : (List Int)) =>
  (M.ok (!memB (((2 : Int) * pair) + (1 : Int)) s17))
/-- _law_due -/
noncomputable def l_due_m (many : Int) (free : (List (Int × Int))) (taken : (List Int)) (pair : Int) : M PyData :=
  (M.ok taken) >>= fun l7 =>
  M.foldC (fun (_ : Unit) x2 =>
    if ((decide (x2 < (0 : Int))) || (decide (many ≤ x2))) then
      (M.ok (UD.toU (("unknown" : PySem.Str), x2))) >>= fun r => .ok (.rt r)
    else
      M.ok (.nx ())) () l7 >>= fun c6 => Ct.go c6 M.ok fun (_ : Unit) =>
  if ((decide (pair < (0 : Int))) || ((decide (many ≤ pair)) || (memB pair taken))) then
  (M.ok (UD.toU (("unknown" : PySem.Str), pair)))
else
  (((l_parts_m many free taken pair) >>= fun t4 => (M.ok (("answer" : PySem.Str), t4))) >>= fun t5 => (M.ok (UD.toU t5)))
/-- parts_points -/
noncomputable def p_parts_points_m (paired : PairedWebM) (taken : (List Int)) (pair : Int) : M Bool :=
  (((M.calm (m_PairedWeb_points_m paired)) >>= fun t1 => (M.range t1)) >>= M.comp (fun x2 => (M.ok (!memB (x2 / (2 : Int)) taken))) (fun x2 => (M.ok x2))) >>= fun points_3 =>
  (((M.calm (m_PairedWeb_all_ties_m paired)) >>= fun t4 => (M.ok (M.enumL t4.l))) >>= M.comp (fun x5 => (M.ok (!decide (x5.1 = pair)))) (fun x5 => (M.ok x5.2))) >>= fun ties_6 =>
  ((((p_grouped_m points_3 ties_6) >>= M.comp (fun _ => (M.ok true)) (fun x7 => (M.ok ((memB ((2 : Int) * pair) x7) && (memB (((2 : Int) * pair) + (1 : Int)) x7))))) >>= fun t8 => (M.ok (t8.any id))) >>= fun t9 => (M.ok (!t9)))
/-- is_bridge -/
noncomputable def p_is_bridge_m (paired : PairedWebM) (taken : (List Int)) (pair : Int) : M Bool :=
  (M.star taken pair) >>= fun l4 =>
  M.fold (fun (_ : Unit) x2 =>
    if ((decide (x2 < (0 : Int))) || (decide (paired.a ≤ x2))) then
      M.raise1 .UnknownPair "pair" (M.ok x2)
    else
      M.ok ()) () l4 >>= fun (_ : Unit) =>
  if (memB pair taken) then
  M.raise1 .UnknownPair "pair" (M.ok pair)
else
  (p_parts_points_m paired taken pair)
/-- _law_told -/
noncomputable def l_told_m (paired_here : PairedWebM) (taken : (List Int)) (pair : Int) : M PyData :=
  M.tryK kn (fun c => XC.isA c .ComesapartError) ((p_is_bridge_m paired_here taken pair) >>= fun answer_1 =>
  if (!true) then
  (M.ok (UD.toU (⟨[("other" : PySem.Str)]⟩ : Tup PySem.Str)))
else
  (M.ok (UD.toU (("answer" : PySem.Str), answer_1))))
  fun px2 => (if (!(XC.isA px2.cls .UnknownPair)) then .ok true else (if (!true) then .ok true else (((px2.fld .UnknownPair "pair") >>= fun t3 => (M.ok true)) >>= fun t4 => (M.ok (!t4))))) >>= fun b7 => if b7 then
    (M.ok (UD.toU (⟨[("other" : PySem.Str)]⟩ : Tup PySem.Str)))
  else
    (((px2.fld .UnknownPair "pair") >>= fun t5 => (M.ok (("unknown" : PySem.Str), t5))) >>= fun t6 => (M.ok (UD.toU t6)))
/-- parts_points@2 -/
noncomputable def p_parts_points_v2_m (paired : PairedWebM) (taken : (Tup Int)) (pair : Int) : M Bool :=
  (((M.calm (m_PairedWeb_points_m paired)) >>= fun t1 => (M.range t1)) >>= M.comp (fun x2 => (M.ok (!memB (x2 / (2 : Int)) taken.l))) (fun x2 => (M.ok x2))) >>= fun points_3 =>
  (((M.calm (m_PairedWeb_all_ties_m paired)) >>= fun t4 => (M.ok (M.enumL t4.l))) >>= M.comp (fun x5 => (M.ok (!decide (x5.1 = pair)))) (fun x5 => (M.ok x5.2))) >>= fun ties_6 =>
  ((((p_grouped_m points_3 ties_6) >>= M.comp (fun _ => (M.ok true)) (fun x7 => (M.ok ((memB ((2 : Int) * pair) x7) && (memB (((2 : Int) * pair) + (1 : Int)) x7))))) >>= fun t8 => (M.ok (t8.any id))) >>= fun t9 => (M.ok (!t9)))
/-- is_bridge@2 -/
noncomputable def p_is_bridge_v2_m (paired : PairedWebM) (taken : (Tup Int)) (pair : Int) : M Bool :=
  (M.star taken.l pair) >>= fun l4 =>
  M.fold (fun (_ : Unit) x2 =>
    if ((decide (x2 < (0 : Int))) || (decide (paired.a ≤ x2))) then
      M.raise1 .UnknownPair "pair" (M.ok x2)
    else
      M.ok ()) () l4 >>= fun (_ : Unit) =>
  if (memB pair taken.l) then
  M.raise1 .UnknownPair "pair" (M.ok pair)
else
  (p_parts_points_v2_m paired taken pair)
/-- _law_told@2 -/
noncomputable def l_told_v2_m (paired_here : PairedWebM) (taken : (Tup Int)) (pair : Int) : M PyData :=
  M.tryK kn (fun c => XC.isA c .ComesapartError) ((p_is_bridge_v2_m paired_here taken pair) >>= fun answer_1 =>
  if (!true) then
  (M.ok (UD.toU (⟨[("other" : PySem.Str)]⟩ : Tup PySem.Str)))
else
  (M.ok (UD.toU (("answer" : PySem.Str), answer_1))))
  fun px2 => (if (!(XC.isA px2.cls .UnknownPair)) then .ok true else (if (!true) then .ok true else (((px2.fld .UnknownPair "pair") >>= fun t3 => (M.ok true)) >>= fun t4 => (M.ok (!t4))))) >>= fun b7 => if b7 then
    (M.ok (UD.toU (⟨[("other" : PySem.Str)]⟩ : Tup PySem.Str)))
  else
    (((px2.fld .UnknownPair "pair") >>= fun t5 => (M.ok (("unknown" : PySem.Str), t5))) >>= fun t6 => (M.ok (UD.toU t6)))
/-- _law_right -/
noncomputable def l_right_m (many : Int) (free : (List (Int × Int))) (taken : (List Int)) (pairs : (List Int)) : M Bool :=
  (m_PairedWebX_initX_m many free) >>= fun paired_here_1 =>
  (M.ok pairs) >>= fun l13 =>
  M.foldC (fun (_ : Unit) x3 =>
    (l_due_m many free taken x3) >>= fun due_here_4 =>
      (M.ok taken) >>= fun passed_5 =>
      (((l_told_m paired_here_1 passed_5 x3) >>= fun t6 => (M.asrt (t6.depth ≤ 64 ∧ due_here_4.depth ≤ 64) (.ok (!PyData.eqv t6 due_here_4)))) >>= fun b7 => (if b7 then .ok true else (M.ok (!decide (passed_5 = taken))))) >>= fun b10 => if b10 then
      (M.ok false) >>= fun r => .ok (.rt r)
    else
      ((l_told_v2_m paired_here_1 ⟨taken⟩ x3) >>= fun t8 => (M.asrt (t8.depth ≤ 64 ∧ due_here_4.depth ≤ 64) (.ok (!PyData.eqv t8 due_here_4)))) >>= fun b9 => if b9 then
        (M.ok false) >>= fun r => .ok (.rt r)
      else
        M.ok (.nx ())) () l13 >>= fun c12 => Ct.go c12 M.ok fun (_ : Unit) =>
  (M.ok true)
/-- law -/
noncomputable def law_m (script : (Sq Int)) : M Bool :=
  (((l_cell_m script (0 : Int)) >>= fun t1 => (l_draws_m t1 (60 : Int))) >>= fun t3 => (((l_cell_m script (1 : Int)) >>= fun t2 => (l_draws_m t2 (60 : Int))) >>= fun t4 => (M.cat t3 t4))) >>= fun draws_here_5 =>
  ((l_cell_m script (2 : Int)) >>= fun t6 => (l_draws_m t6 (60 : Int))) >>= fun extra_7 =>
  (((l_pick_m extra_7 (0 : Int) (3 : Int)) >>= fun t8 => (M.ok (decide (t8 = (0 : Int))))) >>= fun b29 => if b29 then
  (l_only_m draws_here_5 (6 : Int) (12 : Int)) >>= fun t9 =>
    M.ok (t9.1, t9.2)
else
  (l_paired_m draws_here_5 (6 : Int) (12 : Int)) >>= fun t10 =>
    M.ok (t10.1, t10.2)) >>= (fun s11 : (Int × (List (Int × Int))) =>
  ((M.rangeL 0 s11.1) >>= fun t14 => (((l_pick_m extra_7 (1 : Int) (2 : Int)) >>= fun t13 => (M.ok ((1 : Int) + t13))) >>= fun t15 => (l_some_m extra_7 (2 : Int) t14 t15))) >>= fun taken_16 =>
  (l_bad_m extra_7 (20 : Int) taken_16 s11.1) >>= fun bad_here_17 =>
  ((M.rangeL 0 s11.1) >>= fun t18 => (M.cat [(-(1 : Int)), s11.1, (1000000000000000000000000000000 : Int)] t18)) >>= fun pairs_19 =>
  (((l_right_m s11.1 s11.2 taken_16 pairs_19) >>= fun t20 => (M.ok (!t20))) >>= fun b23 => (if b23 then .ok true else (((M.rangeL 0 s11.1) >>= fun t21 => (l_right_m s11.1 s11.2 ([] : (List Int)) t21)) >>= fun t22 => (M.ok (!t22))))) >>= fun b28 => if b28 then
  (M.ok false)
else
  ((l_right_m s11.1 (cutL s11.2 none (some (-(1 : Int)))) taken_16 pairs_19) >>= fun t24 => (M.ok (!t24))) >>= fun b27 => if b27 then
    (M.ok false)
  else
    ((l_right_m s11.1 s11.2 bad_here_17 (cutL pairs_19 (some (1 : Int)) (some (5 : Int)))) >>= fun b26 => (if b26 then ((M.rangeL 0 s11.1) >>= fun t25 => (l_right_m s11.1 s11.2 taken_16 t25)) else .ok false)))
end K27

namespace K27
open PySem L2 G PM
def ptsOf (n : Nat) (taken : List Int) : List Int := (rngL 0 (2 * n)).filter fun x => !memB (x / 2) taken
theorem pts_nd (n : Nat) (taken : List Int) : (ptsOf n taken).Nodup := List.Sublist.nodup List.filter_sublist (rngL_nodup' _ _)
theorem pts_len (n : Nat) (taken : List Int) : (ptsOf n taken).length ≤ 2 * n := by
  have := List.length_filter_le (fun x => !memB (x / 2) taken) (rngL 0 (2 * n))
  rw [rngL_len] at this
  exact this
theorem mem_pts {n : Nat} {taken : List Int} {x : Int} : x ∈ ptsOf n taken ↔ (0 ≤ x ∧ x < 2 * n) ∧ x / 2 ∉ taken := by
  unfold ptsOf
  rw [List.mem_filter, mem_rngL]
  simp [memB]
theorem but_len (n : Nat) (free : List (Int × Int)) (pair : Int) : (tiesBut n free pair).length ≤ n + free.length := by
  unfold tiesBut
  rw [List.length_append, List.length_map]
  have := List.length_filter_le (fun x => !decide (x = pair)) (rngL 0 n)
  rw [rngL_len] at this
  omega
theorem but_range {n : Nat} {free : List (Int × Int)} (g : GoodP n free) {pair : Int} {x : Int × Int} (hx : x ∈ tiesBut n free pair) : (0 ≤ x.1 ∧ x.1 < 2 * n) ∧ (0 ≤ x.2 ∧ x.2 < 2 * n) := by
  unfold tiesBut at hx
  rcases List.mem_append.mp hx with hx | hx
  · obtain ⟨k, hk, rfl⟩ := List.mem_map.mp hx
    have := mem_rngL.mp (List.mem_filter.mp hk).1
    show (0 ≤ 2 * k ∧ 2 * k < 2 * (n : Int)) ∧ (0 ≤ 2 * k + 1 ∧ 2 * k + 1 < 2 * (n : Int))
    omega
  · obtain ⟨a, b, c, d⟩ := g.fr x hx
    exact ⟨⟨a, b⟩, c, d⟩
/-- what the rounds have reached -/
structure Inv (pts : List Int) (ties : List (Int × Int)) (p : Int) (R : List Int) : Prop where
  nd : R.Nodup
  re : ∀ y ∈ R, Reach pts ties p y
  st : p ∈ R
theorem Inv.len {pts : List Int} {ties : List (Int × Int)} {p : Int} {R : List Int} (h : Inv pts ties p R) (hp : p ∈ pts) : R.length ≤ pts.length := len_le h.nd fun y hy => (h.re y hy).mem hp
theorem Inv.push {pts : List Int} {ties : List (Int × Int)} {p : Int} {R : List Int} (h : Inv pts ties p R) {y z : Int} (hy : y ∈ R) (a : Adj pts ties y z) (hz : z ∉ R) : Inv pts ties p (R ++ [z]) :=
  ⟨nodup_snoc h.nd hz, fun x hx => by
    rcases List.mem_append.mp hx with hx | hx
    · exact h.re x hx
    · rw [List.mem_singleton] at hx; subst hx; exact .tail (h.re y hy) a, List.mem_append_left _ h.st⟩
def Clo (pts : List Int) (ties : List (Int × Int)) (R : List Int) : Prop := ∀ a b, Adj pts ties a b → a ∈ R → b ∈ R
theorem Inv.all {pts : List Int} {ties : List (Int × Int)} {p : Int} {R : List Int} (h : Inv pts ties p R) (c : Clo pts ties R) (y : Int) : y ∈ R ↔ Reach pts ties p y := by
  refine ⟨h.re y, fun hr => ?_⟩
  induction hr with
  | refl => exact h.st
  | tail _ a ih => exact c _ _ a ih
theorem parts_eq {n : Nat} {free : List (Int × Int)} (g : GoodP n free) (hn : n ≤ 100) (hl : free.length ≤ 200) {taken : List Int} {pair : Int} (h0 : 0 ≤ pair) (h1 : pair < n) (ht : pair ∉ taken) :
    l_parts_m n free taken pair = .ok (!decide (Reach (ptsOf n taken) (tiesBut n free pair) (2 * pair) (2 * pair + 1))) := by
  refine M.sat_val ?_
  unfold l_parts_m
  rw [M.rangeN (by omega)]
  simp only [M.ok_bind]
  rw [M.comp_ok (fun x => !decide (x = pair)) (fun x => ((2 : Int) * x, (2 : Int) * x + 1))]
  simp only [M.ok_bind]
  have hbl := but_len n free pair
  unfold tiesBut at hbl
  rw [List.length_append] at hbl
  have hcat : M.cat (((rngL 0 n).filter fun x => !decide (x = pair)).map fun k => ((2 : Int) * k, (2 : Int) * k + 1)) free = .ok (tiesBut n free pair) := by
    unfold M.cat
    rw [M.asrt_pos (Nat.le_of_lt (small1k (by omega)))]
    rfl
  rw [hcat]
  simp only [M.ok_bind]
  rw [show (2 : Int) * (n : Int) = ((2 * n : Nat) : Int) by omega, M.rangeN (by omega)]
  simp only [M.ok_bind]
  have hpp : 2 * pair ∈ ptsOf n taken := mem_pts.mpr ⟨by omega, by rwa [show 2 * pair / 2 = pair by omega]⟩
  have hpl := pts_len n taken
  have hrange := fun (x : Int × Int) (hx : x ∈ tiesBut n free pair) => but_range g hx
  generalize hT : tiesBut n free pair = T at *
  generalize hP : ptsOf n taken = P at *
  have hadj : ∀ x ∈ T, x.1 / 2 ∉ taken → x.2 / 2 ∉ taken → Adj P T x.1 x.2 := fun x hx q1 q2 => by
    have := hrange x hx
    rw [← hP]
    exact ⟨mem_pts.mpr ⟨this.1, q1⟩, mem_pts.mpr ⟨this.2, q2⟩, .inl hx⟩
  have hfree : ∀ a b, Adj P T a b → a / 2 ∉ taken ∧ b / 2 ∉ taken := fun a b h => by
    rw [← hP] at h
    exact ⟨(mem_pts.mp h.1).2, (mem_pts.mp h.2.1).2⟩
  refine M.sat_bind (R1 := fun c : Ct (List Int) Empty => ∃ R, (c = .nx R ∨ c = .bk R) ∧ Inv P T (2 * pair) R ∧ Clo P T R) (M.sat_foldC (fun i R => Inv P T (2 * pair) R ∧ i + 1 ≤ R.length) ⟨⟨by simp, fun y hy => by rw [List.mem_singleton] at hy; subst hy; exact .refl _, by simp⟩, by simp⟩ (fun i x R hx ⟨hi, hlen⟩ => ?_) fun R ⟨hi, hlen⟩ => ?_) fun c ⟨R, hc, hi, hclo⟩ => ?_
  · refine M.sat_bind (R1 := fun s : List Int × Bool => Inv P T (2 * pair) s.1 ∧ (s.2 = true → R.length < s.1.length) ∧ (s.2 = false → s.1 = R ∧ Clo P T R)) ?_ fun s ⟨q1, q2, q3⟩ => ?_
    · refine M.sat_mono (M.sat_fold (fun j (s : List Int × Bool) => Inv P T (2 * pair) s.1 ∧ R.length ≤ s.1.length ∧ (s.2 = true → R.length < s.1.length) ∧ (s.2 = false → s.1 = R ∧ ∀ x ∈ T.take j, x.1 / 2 ∉ taken → x.2 / 2 ∉ taken → (x.1 ∈ R ↔ x.2 ∈ R))) ⟨hi, Nat.le_refl _, fun z => (nomatch z), fun _ => ⟨rfl, fun x hx => by simp at hx⟩⟩ fun j x s hx ⟨q1, ql, q2, q3⟩ => ?_) fun s ⟨q1, ql, q2, q3⟩ => ⟨q1, q2, fun e => ?_⟩
      · have hxT : x ∈ T := List.mem_of_getElem? hx
        have htk : T.take (j + 1) = T.take j ++ [x] := by rw [List.take_add_one, hx]; rfl
        have hsl : ∀ s' : List Int, Inv P T (2 * pair) s' → s'.length ≤ 1000 := fun s' h => by have := h.len hpp; omega
        refine M.sat_if (fun hb => ?_) fun hb => M.sat_ok ⟨q1, ql, q2, fun e => ⟨(q3 e).1, fun y hy u1 u2 => ?_⟩⟩
        · have hb' : x.1 / 2 ∉ taken ∧ x.2 / 2 ∉ taken := by simpa [memB] using hb
          have ad := hadj x hxT hb'.1 hb'.2
          refine M.sat_bind (R1 := fun s' : List Int × Bool => Inv P T (2 * pair) s'.1 ∧ R.length ≤ s'.1.length ∧ (s'.2 = true → R.length < s'.1.length) ∧ (s'.2 = false → s'.1 = R ∧ (x.1 ∈ R → x.2 ∈ R) ∧ ∀ x ∈ T.take j, x.1 / 2 ∉ taken → x.2 / 2 ∉ taken → (x.1 ∈ R ↔ x.2 ∈ R))) (M.sat_if (fun hc => ?_) fun hc => ?_) fun s' ⟨r1, rl, r2, r3⟩ => M.sat_if (fun hc => ?_) fun hc => ?_
          · have hc' : x.1 ∈ s.1 ∧ x.2 ∉ s.1 := by simpa [memB] using hc
            rw [M.push_small (by have := hsl _ q1; omega)]
            exact ⟨_, rfl, q1.push hc'.1 ad hc'.2, by show _ ≤ (s.1 ++ [x.2]).length; simp; omega, fun _ => by show _ < (s.1 ++ [x.2]).length; simp; omega, fun z => (nomatch z)⟩
          · refine M.sat_ok ⟨q1, ql, q2, fun e => ⟨(q3 e).1, fun hx1 => ?_, (q3 e).2⟩⟩
            have e1 := (q3 e).1
            rw [← e1] at hx1 ⊢
            have hc' : x.1 ∈ s.1 → x.2 ∈ s.1 := by simpa [memB] using hc
            exact hc' hx1
          · have hc' : x.2 ∈ s'.1 ∧ x.1 ∉ s'.1 := by simpa [memB] using hc
            rw [M.push_small (by have := hsl _ r1; omega)]
            exact ⟨_, rfl, r1.push hc'.1 ad.symm hc'.2, by show _ ≤ (s'.1 ++ [x.1]).length; simp; omega, fun _ => by show _ < (s'.1 ++ [x.1]).length; simp; omega, fun z => (nomatch z)⟩
          · refine M.sat_ok ⟨r1, rl, r2, fun e => ⟨(r3 e).1, fun y hy u1 u2 => ?_⟩⟩
            rw [htk] at hy
            rcases List.mem_append.mp hy with hy | hy
            · exact (r3 e).2.2 y hy u1 u2
            · rw [List.mem_singleton] at hy
              subst hy
              refine ⟨(r3 e).2.1, fun h2 => ?_⟩
              have e1 := (r3 e).1
              rw [← e1] at h2 ⊢
              have hc' : y.2 ∈ s'.1 → y.1 ∈ s'.1 := by simpa [memB] using hc
              exact hc' h2
        · rw [htk] at hy
          rcases List.mem_append.mp hy with hy | hy
          · exact (q3 e).2 y hy u1 u2
          · rw [List.mem_singleton] at hy
            subst hy
            exact absurd (show (!memB (y.1 / 2) taken && !memB (y.2 / 2) taken) = true by simpa [memB] using And.intro u1 u2) (by rw [hb]; simp)
      · rw [List.take_length] at q3
        refine ⟨(q3 e).1, fun a b ad ha => ?_⟩
        have hf := hfree a b ad
        rcases ad.2.2 with h | h
        · exact ((q3 e).2 _ h hf.1 hf.2).mp ha
        · exact ((q3 e).2 _ h hf.2 hf.1).mpr ha
    · refine M.sat_if (fun hb => M.sat_ok ?_) fun hb => M.sat_ok ?_
      · have e : s.2 = false := by simpa using hb
        exact ⟨s.1, .inr rfl, q1, by rw [(q3 e).1]; exact (q3 e).2⟩
      · have e : s.2 = true := by simpa using hb
        exact ⟨q1, by have := q2 e; omega⟩
  · rw [rngL_len] at hlen
    have := hi.len hpp
    omega
  · have key : decide (Reach P T (2 * pair) (2 * pair + 1)) = memB (2 * pair + 1) R := by
      rw [Bool.eq_iff_iff, decide_eq_true_eq, memB_iff]
      exact (hi.all hclo _).symm
    rw [key]
    rcases hc with rfl | rfl <;> exact ⟨_, rfl, rfl⟩
theorem points_eq {n : Nat} {free : List (Int × Int)} (g : GoodP n free) (hn : n ≤ 100) (hl : free.length ≤ 200) {taken : List Int} {pair : Int} (h0 : 0 ≤ pair) (h1 : pair < n) (ht : pair ∉ taken) :
    p_parts_points_m ⟨n, ⟨free⟩⟩ taken pair = .ok (!decide (Reach (ptsOf n taken) (tiesBut n free pair) (2 * pair) (2 * pair + 1))) := by
  unfold p_parts_points_m
  rw [show m_PairedWeb_points_m ⟨(n : Int), ⟨free⟩⟩ = .ok ((2 : Int) * (n : Int)) from rfl]
  simp only [M.calm_of_ok, M.ok_bind]
  rw [show (2 : Int) * (n : Int) = ((2 * n : Nat) : Int) by omega, M.rangeN (by omega)]
  simp only [M.ok_bind]
  rw [M.comp_filter (fun x => !memB (x / 2) taken) fun _ _ => rfl, all_ties_eq (by omega) (by omega)]
  simp only [M.calm_of_ok, M.ok_bind]
  rw [M.comp_ok (fun x : Int × Int × Int => !decide (x.1 = pair)) (fun x : Int × Int × Int => x.2), enum_but h1]
  simp only [M.ok_bind]
  have hbl := but_len n free pair
  have hpl := pts_len n taken
  rw [show ((rngL 0 (2 * n)).filter fun x => !memB (x / 2) taken) = ptsOf n taken from rfl, grouped_eq (pts_nd n taken) (by omega) (by omega)]
  simp only [M.ok_bind]
  rw [M.comp_map]
  simp only [M.ok_bind]
  rw [any_group (pts_nd n taken) (mem_pts.mpr ⟨by omega, by rwa [show 2 * pair / 2 = pair by omega]⟩)]
theorem pair_ok (s : Str) (x : Int) : M.asrt ((UD.toU (s, x)).depth ≤ 64 ∧ (UD.toU (s, x)).depth ≤ 64) (M.ok (!PyData.eqv (UD.toU (s, x)) (UD.toU (s, x)))) = .ok false := by
  rw [M.asrt_pos (by simp [UD.toU, PyData.depth, PyData.depthAll])]
  simp [UD.toU, PyData.eqv, PyData.eqvAll]
theorem pairB_ok (s : Str) (x : Bool) : M.asrt ((UD.toU (s, x)).depth ≤ 64 ∧ (UD.toU (s, x)).depth ≤ 64) (M.ok (!PyData.eqv (UD.toU (s, x)) (UD.toU (s, x)))) = .ok false := by
  rw [M.asrt_pos (by simp [UD.toU, PyData.depth, PyData.depthAll])]
  simp [UD.toU, PyData.eqv, PyData.eqvAll]
def bad (many : Int) (x : Int) : Bool := decide (x < 0) || decide (many ≤ x)
theorem bridge_eq {n : Nat} {free : List (Int × Int)} {taken : List Int} {pair : Int} (htl : taken.length ≤ 1000) : p_is_bridge_m ⟨n, ⟨free⟩⟩ taken pair = (match (taken ++ [pair]).find? (bad n) with | some x => .exc ⟨.UnknownPair, some [("pair", .int x)]⟩ | none => if memB pair taken then .exc ⟨.UnknownPair, some [("pair", .int pair)]⟩ else p_parts_points_m ⟨n, ⟨free⟩⟩ taken pair) := by
  unfold p_is_bridge_m M.star
  rw [M.asrt_pos (Nat.le_of_lt (small1k (by omega)))]
  simp only [M.ok_bind]
  rw [M.fold_find (bad n) (fun x => ⟨.UnknownPair, some [("pair", .int x)]⟩) fun x => rfl]
  cases h : (taken ++ [pair]).find? (bad n) with
  | some x => rfl
  | none => rfl
theorem told_exc {n : Nat} {free : List (Int × Int)} {taken : List Int} {pair x : Int} (h : p_is_bridge_m ⟨n, ⟨free⟩⟩ taken pair = .exc ⟨.UnknownPair, some [("pair", .int x)]⟩) : l_told_m ⟨n, ⟨free⟩⟩ taken pair = .ok (UD.toU (("unknown" : Str), x)) := by
  unfold l_told_m
  rw [h, M.exc_bind, M.tryK_exc (by rfl) (by rfl)]
  have : PX.fld ⟨.UnknownPair, some [("pair", .int x)]⟩ .UnknownPair "pair" = .ok x := rfl
  rw [this]
  simp [XC.isA]
theorem told_ok {n : Nat} {free : List (Int × Int)} {taken : List Int} {pair : Int} {b : Bool} (h : p_is_bridge_m ⟨n, ⟨free⟩⟩ taken pair = .ok b) : l_told_m ⟨n, ⟨free⟩⟩ taken pair = .ok (UD.toU (("answer" : Str), b)) := by
  unfold l_told_m
  rw [h]
  rfl
theorem told2 {n : Nat} {free : List (Int × Int)} {taken : List Int} {pair : Int} : l_told_v2_m ⟨n, ⟨free⟩⟩ ⟨taken⟩ pair = l_told_m ⟨n, ⟨free⟩⟩ taken pair := rfl
theorem turn_ok {n : Nat} {free : List (Int × Int)} (g : GoodP n free) (hn : n ≤ 100) (hl : free.length ≤ 200) {taken : List Int} (htl : taken.length ≤ 1000) (pair : Int) :
    ∃ d, l_due_m n free taken pair = .ok d ∧ l_told_m ⟨n, ⟨free⟩⟩ taken pair = .ok d ∧ M.asrt (d.depth ≤ 64 ∧ d.depth ≤ 64) (M.ok (!PyData.eqv d d)) = .ok false := by
  have hbr := bridge_eq (n := n) (free := free) (taken := taken) (pair := pair) htl
  unfold l_due_m
  simp only [M.ok_bind]
  rw [M.foldC_find (bad n) (fun x => UD.toU (("unknown" : Str), x)) fun x => rfl]
  rw [List.find?_append] at hbr
  simp only [M.ok_bind]
  cases h : taken.find? (bad n) with
  | some x =>
    rw [h] at hbr
    exact ⟨_, rfl, told_exc hbr, pair_ok _ _⟩
  | none =>
    rw [h] at hbr
    simp only [Option.none_or] at hbr
    by_cases hb : bad n pair = true
    · rw [List.find?_cons_of_pos hb] at hbr
      refine ⟨_, ?_, told_exc hbr, pair_ok _ _⟩
      have hb' : pair < 0 ∨ (n : Int) ≤ pair := by simpa [bad] using hb
      simp only [Ct.go]
      rw [if_pos (by simp; omega)]
    · rw [List.find?_cons_of_neg hb, List.find?_nil] at hbr
      have hb' : ¬ (pair < 0 ∨ (n : Int) ≤ pair) := by simpa [bad] using hb
      simp only [Ct.go]
      by_cases hm : pair ∈ taken
      · simp only [memB, decide_eq_true hm, if_true] at hbr
        refine ⟨_, ?_, told_exc hbr, pair_ok _ _⟩
        rw [if_pos (by simp [memB, hm])]
      · simp only [memB, decide_eq_false hm, Bool.false_eq_true, if_false] at hbr
        rw [points_eq g hn hl (by omega) (by omega) hm] at hbr
        refine ⟨_, ?_, told_ok hbr, pairB_ok _ _⟩
        rw [if_neg (by simp [memB, hm]; omega), parts_eq g hn hl (by omega) (by omega) hm]
        rfl
theorem right_ok {n : Nat} {free : List (Int × Int)} (g : GoodP n free) (hn : n ≤ 100) (hl : free.length ≤ 200) {taken : List Int} (htl : taken.length ≤ 1000) (pairs : List Int) : l_right_m n free taken pairs = .ok true := by
  unfold l_right_m
  rw [paired_ok g (by omega) hl]
  simp only [M.ok_bind]
  rw [M.foldC_unit _ fun x hx => ?_]
  · rfl
  obtain ⟨d, e1, e2, e3⟩ := turn_ok g hn hl htl x
  rw [e1]
  simp only [M.ok_bind]
  rw [told2, e2]
  simp only [M.ok_bind]
  rw [e3]
  simp
theorem popAt_pick {d : List Int} {k : Int} {xs : List Int} (h : 0 < xs.length) (hs : xs.length ≤ 1000) : ∃ (j : Nat) (y : Int), j < xs.length ∧ xs[j]? = some y ∧ pick d k (xs.length : Int) = j ∧ M.popAt xs (.ok (pick d k (xs.length : Int))) = .ok (xs.eraseIdx j, y) := by
  have hr := pick_range (d := d) (k := k) (m := (xs.length : Int)) (by omega)
  generalize pick d k (xs.length : Int) = q at hr
  obtain ⟨y, hy, _⟩ := M.ix_some hr.1 hr.2
  exact ⟨q.toNat, y, by omega, hy, by omega, M.popAt_at hr.1 (by omega) hy⟩
theorem insert_at {α : Type} {xs : List α} {n : Int} {y : α} (h0 : 0 ≤ n) (h1 : n ≤ 100000) (hl : xs.length ≤ 100000) : M.insert xs (.ok n) (.ok y) = .ok (xs.take n.toNat ++ [y] ++ xs.drop n.toNat) := by
  unfold M.insert
  simp only [M.ok_bind]
  rw [M.asrt_pos ⟨small1k hl, h0, by omega⟩]
theorem mem_insert {α : Type} {xs : List α} {n : Nat} {y z : α} (h : z ∈ xs.take n ++ [y] ++ xs.drop n) : z = y ∨ z ∈ xs := by
  rcases List.mem_append.mp h with h | h
  · rcases List.mem_append.mp h with h | h
    · exact .inr (List.mem_of_mem_take h)
    · exact .inl (List.mem_singleton.mp h)
  · exact .inr (List.mem_of_mem_drop h)
theorem len_insert {α : Type} {xs : List α} {n : Nat} {y : α} : (xs.take n ++ [y] ++ xs.drop n).length = xs.length + 1 := by
  simp only [List.length_append, List.length_take, List.length_drop, List.length_singleton]
  omega
theorem paired_sat (d : List Int) {p f : Int} (hp0 : 0 ≤ p) (hp : p ≤ 100) (hf0 : 0 ≤ f) (hf : f ≤ 200) : M.sat (l_paired_m d p f) fun r => (0 ≤ r.1 ∧ r.1 ≤ p) ∧ GoodP r.1 r.2 ∧ r.2.length ≤ 200 := by
  unfold l_paired_m
  simp only [pick_eq, M.ok_bind]
  have hm := pick_range (d := d) (k := 0) (m := p + 1) (by omega)
  generalize pick d 0 (p + 1) = many at hm
  have hk := pick_range (d := d) (k := 1) (m := f + 1) (by omega)
  generalize pick d 1 (f + 1) = kk at hk
  rw [M.range_ok hk.1 (by omega)]
  simp only [M.ok_bind]
  refine M.sat_bind (M.sat_fold (fun i (s : List (Int × Int)) => GoodP many s ∧ s.length ≤ i) ⟨⟨hm.1, fun x hx => (nomatch hx)⟩, Nat.le_refl 0⟩ fun i x s hx ⟨hs, hsl⟩ => ?_) fun s ⟨h1, h2⟩ => M.sat_ok ⟨⟨hm.1, by show many ≤ p; omega⟩, h1, by rw [rngL_len] at h2; show s.length ≤ _; omega⟩
  have hi := (rngL_get hx).1
  refine M.sat_if (fun hb => ?_) fun _ => M.sat_ok ⟨hs, by omega⟩
  have h0 : 0 < many := by simpa using hb
  have r1 := pick_range (d := d) (k := 2 + 2 * x) (m := 2 * many) (by omega)
  have r2 := pick_range (d := d) (k := 3 + 2 * x) (m := 2 * many) (by omega)
  rw [M.push_small (by omega)]
  refine ⟨_, rfl, ⟨hm.1, fun y hy => ?_⟩, by simp; omega⟩
  rcases List.mem_append.mp hy with hy | hy
  · exact hs.fr y hy
  · rw [List.mem_singleton] at hy
    subst hy
    exact ⟨r1.1, r1.2, r2.1, r2.2⟩
theorem setd_ok {x : DI Int} {n y : Int} (hl : x.kv.length ≤ 1000) : M.setd x (.ok n) (.ok y) = .ok (setdI x n y) := by
  unfold M.setd
  simp only [M.ok_bind]
  exact M.asrt_pos (small1k (by omega))
theorem only_sat (d : List Int) {p f : Int} (hp0 : 0 ≤ p) (hp : p ≤ 6) (hf0 : 0 ≤ f) (hf : f ≤ 12) : M.sat (l_only_m d p f) fun r => (0 ≤ r.1 ∧ r.1 ≤ p) ∧ GoodP r.1 r.2 ∧ r.2.length ≤ 200 := by
  unfold l_only_m
  simp only [pick_eq, M.ok_bind]
  have hm := pick_range (d := d) (k := 0) (m := p + 1) (by omega)
  generalize pick d 0 (p + 1) = many at hm
  obtain ⟨n, rfl⟩ : ∃ n : Nat, many = n := ⟨many.toNat, by omega⟩
  rw [rangeL_ok (by omega) (by omega), M.rangeN (by omega)]
  simp only [M.ok_bind]
  rw [show ((n : Int)).toNat = n by omega]
  refine M.sat_bind (M.sat_fold (fun i (s : List Int × List Int) => s.2.length = i ∧ s.1.length + i = n ∧ (∀ y ∈ s.1, 0 ≤ y ∧ y < n) ∧ ∀ y ∈ s.2, 0 ≤ y ∧ y < n) ⟨rfl, by show (rngL 0 n).length + 0 = n; rw [rngL_len]; rfl, fun y hy => by have := mem_rngL.mp hy; omega, fun y hy => (nomatch hy)⟩ fun i x s hx ⟨hl, hl2, h1, h2⟩ => ?_) fun s ⟨hl, hl2, _, h2⟩ => ?_
  · have hi := (rngL_get hx).1
    have hr := pick_range (d := d) (k := 2 + x) (m := (s.1.length : Int)) (by omega)
    generalize pick d (2 + x) (s.1.length : Int) = k at hr
    obtain ⟨y, hy, _⟩ := M.ix_some hr.1 hr.2
    rw [appendPop_at hr.1 (by omega) hy (by omega)]
    refine ⟨_, rfl, by simp; omega, ?_, fun z hz => ?_, fun z hz => ?_⟩
    · show (s.1.eraseIdx k.toNat).length + _ = _
      rw [List.length_eraseIdx, if_pos (by omega)]; omega
    · exact h1 z (List.mem_of_mem_eraseIdx hz)
    · rcases List.mem_append.mp hz with hz | hz
      · exact h2 z hz
      · rw [List.mem_singleton] at hz; subst hz; exact h1 z (List.mem_of_getElem? hy)
  rw [rngL_len] at hl
  have ho : ∀ x : Int, 0 ≤ x → x < n → ∃ h, M.ix s.2 x = .ok h ∧ 0 ≤ h ∧ h < n := fun x q0 q1 => by
    obtain ⟨h, hh, e⟩ := M.ix_some (xs := s.2) q0 (by omega)
    exact ⟨h, e, h2 h (List.mem_of_getElem? hh)⟩
  have hk := pick_range (d := d) (k := 1) (m := f + 1) (by omega)
  generalize pick d 1 (f + 1) = kk at hk
  refine M.sat_bind (M.sat_fold (fun i (q : List Int × List (Int × Int)) => q.1.length = n ∧ GoodP n q.2 ∧ q.2.length ≤ 12 * i) ⟨by rw [rngL_len], ⟨by omega, fun x hx => (nomatch hx)⟩, Nat.le_refl 0⟩ fun i x q hx ⟨hql, hqg, hqn⟩ => ?_) fun q ⟨_, hqg, hqn⟩ => M.sat_ok ⟨⟨by show (0 : Int) ≤ (n : Int); omega, by show (n : Int) ≤ p; omega⟩, hqg, by rw [rngL_len] at hqn; show q.2.length ≤ _; omega⟩
  obtain ⟨hi, hxi⟩ := rngL_get hx
  obtain ⟨here, eh, hh0, hh1⟩ := ho x (by omega) (by omega)
  rw [eh]
  simp only [M.ok_bind]
  rw [M.range_ok hk.1 (by omega)]
  simp only [M.ok_bind]
  refine M.sat_bind (M.sat_fold (fun j (w : List (Int × Int) × DI Int) => GoodP n w.1 ∧ w.1.length ≤ 12 * i + j ∧ w.2.kv.length ≤ j ∧ ∀ k v, w.2.kv.lookup k = some v → 0 ≤ v ∧ v < 2) ⟨hqg, by omega, Nat.le_refl 0, fun k v e => (nomatch e)⟩ fun j y w hy ⟨g1, g2, g3, g4⟩ => ?_) fun w ⟨g1, g2, g3, g4⟩ => ?_
  · have hj := (rngL_get hy).1
    refine M.sat_if (fun hb => ?_) fun _ => M.sat_ok ⟨g1, by show w.1.length ≤ _; omega, by show w.2.kv.length ≤ _; omega, g4⟩
    generalize (2 : Int) + (n : Int) + 6 * y = at_
    have r1 := pick_range (d := d) (k := at_ + 1) (m := x + 1) (by omega)
    obtain ⟨there, et, ht0, ht1⟩ := ho _ r1.1 (by omega)
    rw [et]
    simp only [M.ok_bind]
    have r2 := pick_range (d := d) (k := at_ + 2) (m := 2) (by omega)
    have r3 := pick_range (d := d) (k := at_ + 3) (m := 2) (by omega)
    generalize pick d (at_ + 2) 2 = which at r2
    generalize pick d (at_ + 3) 2 = fr at r3
    refine M.sat_bind (R1 := fun v : DI Int × Int × Int => (0 ≤ v.2.1 ∧ v.2.1 < 2) ∧ (0 ≤ v.2.2 ∧ v.2.2 < 2 * n) ∧ v.1.kv.length ≤ j + 1 ∧ ∀ k z, v.1.kv.lookup k = some z → 0 ≤ z ∧ z < 2) (M.sat_if (fun _ => ?_) fun _ => ?_) fun v ⟨v1, v2, v3, v4⟩ => ?_
    · exact M.sat_ok ⟨r2, by show 0 ≤ 2 * here + which ∧ 2 * here + which < 2 * (n : Int); omega, by show w.2.kv.length ≤ _; omega, g4⟩
    · obtain ⟨lb, hlb, elb⟩ := M.ix_some (xs := q.1) ht0 (by omega)
      rw [elb, setd_ok (by omega)]
      simp only [M.ok_bind]
      refine M.sat_ok ?_
      unfold setdI
      cases hlk : w.2.kv.lookup lb with
      | some z => exact ⟨g4 _ _ hlk, by show 0 ≤ 2 * there + fr ∧ 2 * there + fr < 2 * (n : Int); omega, by show w.2.kv.length ≤ _; omega, g4⟩
      | none =>
        refine ⟨r2, by show 0 ≤ 2 * there + fr ∧ 2 * there + fr < 2 * (n : Int); omega, ?_, fun k z e => ?_⟩
        · show (putI w.2.kv lb which).length ≤ _
          unfold putI
          rw [hlk]
          simp
          omega
        · have e' : (putI w.2.kv lb which).lookup k = some z := e
          rw [PM.lookup_putI] at e'
          by_cases hkl : k = lb
          · rw [if_pos hkl] at e'
            cases e'
            exact r2
          · rw [if_neg hkl] at e'
            exact g4 k z e'
    · have tie : ∀ t : Int × Int, (t = (2 * here + v.2.1, v.2.2) ∨ t = (v.2.2, 2 * here + v.2.1)) → 0 ≤ t.1 ∧ t.1 < 2 * (n : Int) ∧ 0 ≤ t.2 ∧ t.2 < 2 * (n : Int) := fun t ht => by
        rcases ht with rfl | rfl
        · show 0 ≤ 2 * here + v.2.1 ∧ 2 * here + v.2.1 < 2 * (n : Int) ∧ 0 ≤ v.2.2 ∧ v.2.2 < 2 * (n : Int)
          omega
        · show 0 ≤ v.2.2 ∧ v.2.2 < 2 * (n : Int) ∧ 0 ≤ 2 * here + v.2.1 ∧ 2 * here + v.2.1 < 2 * (n : Int)
          omega
      refine M.sat_bind (R1 := fun t : Int × Int => t = (2 * here + v.2.1, v.2.2) ∨ t = (v.2.2, 2 * here + v.2.1)) (M.sat_if (fun _ => M.sat_ok (.inr rfl)) fun _ => M.sat_ok (.inl rfl)) fun t ht => ?_
      have r5 := pick_range (d := d) (k := at_ + 5) (m := (w.1.length : Int) + 1) (by omega)
      rw [insert_at r5.1 (by omega) (by omega)]
      refine ⟨_, rfl, ⟨by omega, fun z hz => ?_⟩, ?_, v3, v4⟩
      · rcases mem_insert hz with rfl | hz
        · exact tie _ ht
        · exact g1.fr z hz
      · show (_ ++ _ ++ _ : List (Int × Int)).length ≤ _
        rw [len_insert]
        omega
  · rw [rngL_len] at g2
    refine M.sat_bind (R1 := fun l : List Int => l.length = n) (M.sat_mono (M.sat_fold (fun j (l : List Int) => l.length = n) hql fun j y l hy hl3 => ?_) fun l h => h) fun l hl3 => M.sat_ok ⟨hl3, g1, by show w.1.length ≤ _; omega⟩
    obtain ⟨hj, hyj⟩ := rngL_get hy
    obtain ⟨v, hv, ev⟩ := M.ix_some (xs := l) (i := y) (by omega) (by omega)
    rw [ev]
    simp only [M.ok_bind]
    refine M.sat_if (fun _ => ?_) fun _ => M.sat_ok hl3
    obtain ⟨u, hu, eu⟩ := M.ix_some (xs := l) (i := here) hh0 (by omega)
    rw [eu, setIx_ok (j := y.toNat) (by omega) (by omega)]
    exact ⟨_, rfl, by show (l.set y.toNat u).length = n; rw [List.length_set]; exact hl3⟩
theorem some_sat (d : List Int) {at_ share : Int} {items : List Int} (hl : items.length ≤ 1000) : M.sat (l_some_m d at_ items share) fun r => r.length ≤ items.length := by
  unfold l_some_m
  simp only [pick_eq, M.ok_bind]
  rw [M.rangeN (by omega)]
  simp only [M.ok_bind]
  refine M.sat_bind (M.sat_fold (fun i (s : List Int × List Int) => s.1.length + i = items.length ∧ s.2.length ≤ i) ⟨rfl, Nat.le_refl 0⟩ fun i x s hx ⟨h1, h2⟩ => ?_) fun s ⟨h1, h2⟩ => M.sat_ok (by rw [rngL_len] at h2; exact h2)
  have hi := (rngL_get hx).1
  obtain ⟨j, y, hj, _, _, e⟩ := popAt_pick (d := d) (k := at_ + 2 * x) (xs := s.1) (by omega) (by omega)
  rw [e]
  simp only [M.ok_bind]
  have hel : (s.1.eraseIdx j).length + (i + 1) = items.length := by rw [List.length_eraseIdx, if_pos hj]; omega
  refine M.sat_if (fun _ => ?_) fun _ => M.sat_ok ⟨hel, by show s.2.length ≤ _; omega⟩
  rw [M.push_small (by omega)]
  exact ⟨_, rfl, hel, by show (s.2 ++ [y]).length ≤ _; simp; omega⟩
theorem bad_sat (d : List Int) {at_ many : Int} {taken : List Int} (hl : taken.length ≤ 900) : M.sat (l_bad_m d at_ taken many) fun r => r.length ≤ 1000 := by
  unfold l_bad_m
  simp only [pick_eq, M.ok_bind]
  have hk := pick_range (d := d) (k := at_) (m := 2) (by omega)
  generalize pick d at_ 2 = kk at hk
  rw [M.range_ok (by omega) (by omega)]
  simp only [M.ok_bind]
  refine M.sat_bind (M.sat_fold (fun i (s : List Int) => s.length ≤ taken.length + i) (Nat.le_refl _) fun i x s hx h1 => ?_) fun s h1 => M.sat_ok (by rw [rngL_len] at h1; omega)
  have hi := (rngL_get hx).1
  refine M.sat_bind (R1 := fun _ => True) (M.sat_if (fun _ => M.sat_ok trivial) fun _ => M.sat_ok trivial) fun v _ => M.sat_if (fun _ => ?_) fun _ => M.sat_ok (by omega)
  have r5 := pick_range (d := d) (k := at_ + 3 + 3 * x) (m := (s.length : Int) + 1) (by omega)
  rw [insert_at r5.1 (by omega) (by omega)]
  exact ⟨_, rfl, by show (_ ++ _ ++ _ : List Int).length ≤ _; rw [len_insert]; omega⟩
theorem law_plain (s : List Int) (hs : s.length ≤ 63) : law_m ⟨s⟩ = .ok true := by
  unfold law_m
  obtain ⟨c0, e0⟩ := cell_ok ⟨s⟩ (k := 0) (by decide)
  obtain ⟨c1, e1⟩ := cell_ok ⟨s⟩ (k := 1) (by decide)
  obtain ⟨c2, e2⟩ := cell_ok ⟨s⟩ (k := 2) (by decide)
  obtain ⟨d0, f0, l0⟩ := draws_len c0 (m := 60) (by decide) (by decide)
  obtain ⟨d1, f1, l1⟩ := draws_len c1 (m := 60) (by decide) (by decide)
  obtain ⟨d2, f2, _⟩ := draws_len c2 (m := 60) (by decide) (by decide)
  rw [e0, e1, e2]
  simp only [M.ok_bind, pick_eq, f0, f1, f2]
  have hcat : M.cat d0 d1 = .ok (d0 ++ d1) := by unfold M.cat; exact M.asrt_pos (Nat.le_of_lt (small1k (by omega)))
  rw [hcat]
  simp only [M.ok_bind]
  generalize d0 ++ d1 = dd
  refine M.sat_val (M.sat_bind (R1 := fun r : Int × List (Int × Int) => (0 ≤ r.1 ∧ r.1 ≤ 6) ∧ GoodP r.1 r.2 ∧ r.2.length ≤ 200) (M.sat_if (fun _ => ?_) fun _ => ?_) fun r ⟨hr, g, hl⟩ => ?_)
  · obtain ⟨r, e, h⟩ := only_sat dd (p := 6) (f := 12) (by decide) (by decide) (by decide) (by decide)
    rw [e]
    exact ⟨_, rfl, h⟩
  · obtain ⟨r, e, h⟩ := paired_sat dd (p := 6) (f := 12) (by decide) (by decide) (by decide) (by decide)
    rw [e]
    exact ⟨_, rfl, h⟩
  obtain ⟨many, free⟩ := r
  obtain ⟨n, rfl⟩ : ∃ n : Nat, many = n := ⟨many.toNat, by simp at hr; omega⟩
  simp only at hr g hl ⊢
  have hn : n ≤ 6 := by omega
  rw [rangeL_ok (by omega) (by omega)]
  simp only [M.ok_bind]
  obtain ⟨taken, et, htl⟩ := some_sat d2 (at_ := 2) (share := 1 + pick d2 1 2) (items := rngL 0 ((n : Int)).toNat) (by rw [rngL_len]; omega)
  rw [et]
  simp only [M.ok_bind]
  rw [rngL_len] at htl
  obtain ⟨bad, eb, hbl⟩ := bad_sat d2 (at_ := 20) (many := n) (taken := taken) (by omega)
  rw [eb]
  simp only [M.ok_bind]
  have hcat2 : ∀ ys : List Int, ys.length ≤ 1000 → M.cat [-(1 : Int), (n : Int), 1000000000000000000000000000000] ys = .ok ([-(1 : Int), (n : Int), 1000000000000000000000000000000] ++ ys) := fun ys hy => by unfold M.cat; exact M.asrt_pos (Nat.le_of_lt (small1k (by simp; omega)))
  rw [hcat2 _ (by rw [rngL_len]; omega)]
  simp only [M.ok_bind]
  have g2 : GoodP n (cutL free none (some (-1))) := ⟨g.n0, fun x hx => g.fr x (List.mem_of_mem_drop (List.mem_of_mem_take hx))⟩
  have hl2 : (cutL free none (some (-1))).length ≤ 200 := by
    unfold cutL
    rw [List.length_take, List.length_drop]
    omega
  simp only [right_ok g (by omega) hl (taken := taken) (by omega), right_ok g (by omega) hl (taken := bad) hbl, right_ok g (by omega) hl (taken := []) (by simp), right_ok g2 (by omega) hl2 (taken := taken) (by omega)]
  exact ⟨_, rfl, rfl⟩
end K27

namespace K27
open PySem L2 G PM
/-! the text by places -/
def topS (i : Nat) : Stmt := PySem.Challenge.pw_comesapart_k27_bridges_by_definition.main.body.getD i (.Pass ⟨0, 0, 0, 0⟩)
abbrev s_l_cell : Stmt := topS 14
abbrev N_l_cell : List Str := ["_law_script", "_law_k"]
theorem sc_l_cell : FnScope N_l_cell ["_law_script", "_law_k"] (defScope s_l_cell) := ⟨rfl, rfl, rfl, by decide +kernel, rfl, by decide +kernel, by decide +kernel⟩
abbrev s_l_draws : Stmt := topS 15
abbrev N_l_draws : List Str := ["_law_cell_here", "_law_many", "_law_rest", "_law_exact", "_law_mixed", "_law_draws_here", "_law_k"]
theorem sc_l_draws : FnScope N_l_draws ["_law_cell_here", "_law_many"] (defScope s_l_draws) := ⟨rfl, rfl, rfl, by decide +kernel, rfl, by decide +kernel, by decide +kernel⟩
abbrev s_l_pick : Stmt := topS 16
abbrev N_l_pick : List Str := ["_law_draws_here", "_law_k", "_law_many"]
theorem sc_l_pick : FnScope N_l_pick ["_law_draws_here", "_law_k", "_law_many"] (defScope s_l_pick) := ⟨rfl, rfl, rfl, by decide +kernel, rfl, by decide +kernel, by decide +kernel⟩
abbrev s_l_only : Stmt := topS 18
abbrev N_l_only : List Str := ["_law_draws_here", "_law_most_pairs", "_law_most_free", "_law_many", "_law_pool", "_law_order", "_law_k", "_law_label", "_law_free", "_law_rank", "_law_here", "_law_fixed", "_law_at", "_law_there", "_law_which", "_law_far", "_law_tie", "_law_pair"]
theorem sc_l_only : FnScope N_l_only ["_law_draws_here", "_law_most_pairs", "_law_most_free"] (defScope s_l_only) := ⟨rfl, rfl, rfl, by decide +kernel, rfl, by decide +kernel, by decide +kernel⟩
abbrev s_l_paired : Stmt := topS 17
abbrev N_l_paired : List Str := ["_law_draws_here", "_law_most_pairs", "_law_most_free", "_law_many", "_law_free", "_law_k"]
theorem sc_l_paired : FnScope N_l_paired ["_law_draws_here", "_law_most_pairs", "_law_most_free"] (defScope s_l_paired) := ⟨rfl, rfl, rfl, by decide +kernel, rfl, by decide +kernel, by decide +kernel⟩
abbrev s_l_some : Stmt := topS 19
abbrev N_l_some : List Str := ["_law_draws_here", "_law_at", "_law_items", "_law_share", "_law_pool", "_law_some_here", "_law_k", "_law_item"]
theorem sc_l_some : FnScope N_l_some ["_law_draws_here", "_law_at", "_law_items", "_law_share"] (defScope s_l_some) := ⟨rfl, rfl, rfl, by decide +kernel, rfl, by decide +kernel, by decide +kernel⟩
abbrev s_l_bad : Stmt := topS 20
abbrev N_l_bad : List Str := ["_law_draws_here", "_law_at", "_law_taken", "_law_many", "_law_bad_here", "_law_k", "_law_number"]
theorem sc_l_bad : FnScope N_l_bad ["_law_draws_here", "_law_at", "_law_taken", "_law_many"] (defScope s_l_bad) := ⟨rfl, rfl, rfl, by decide +kernel, rfl, by decide +kernel, by decide +kernel⟩
abbrev s_m_PairedWebX_initX : Stmt := (clsB (topS 12)).getD 2 (.Pass ⟨0, 0, 0, 0⟩)
abbrev N_m_PairedWebX_initX : List Str := ["self", "pairs", "free", "tie", "point", "one", "other"]
theorem sc_m_PairedWebX_initX : FnScope N_m_PairedWebX_initX ["self", "pairs", "free"] (defScope s_m_PairedWebX_initX) := ⟨rfl, rfl, rfl, by decide +kernel, rfl, by decide +kernel, by decide +kernel⟩
abbrev s_l_parts : Stmt := topS 21
abbrev N_l_parts : List Str := ["_law_many", "_law_free", "_law_taken", "_law_pair", "_law_ties", "_law_reached", "_law_k", "_law_changed", "_law_row", "_law_other"]
theorem sc_l_parts : FnScope N_l_parts ["_law_many", "_law_free", "_law_taken", "_law_pair"] (defScope s_l_parts) := ⟨rfl, rfl, rfl, by decide +kernel, rfl, by decide +kernel, by decide +kernel⟩
abbrev s_l_due : Stmt := topS 22
abbrev N_l_due : List Str := ["_law_many", "_law_free", "_law_taken", "_law_pair", "_law_other"]
theorem sc_l_due : FnScope N_l_due ["_law_many", "_law_free", "_law_taken", "_law_pair"] (defScope s_l_due) := ⟨rfl, rfl, rfl, by decide +kernel, rfl, by decide +kernel, by decide +kernel⟩
abbrev s_m_PairedWeb_points : Stmt := (clsB (topS 12)).getD 4 (.Pass ⟨0, 0, 0, 0⟩)
abbrev N_m_PairedWeb_points : List Str := ["self"]
theorem sc_m_PairedWeb_points : FnScope N_m_PairedWeb_points ["self"] (defScope s_m_PairedWeb_points) := ⟨rfl, rfl, rfl, by decide +kernel, rfl, by decide +kernel, by decide +kernel⟩
abbrev s_m_PairedWeb_all_ties : Stmt := (clsB (topS 12)).getD 5 (.Pass ⟨0, 0, 0, 0⟩)
abbrev N_m_PairedWeb_all_ties : List Str := ["self", "pair"]
theorem sc_m_PairedWeb_all_ties : FnScope N_m_PairedWeb_all_ties ["self"] (defScope s_m_PairedWeb_all_ties) := ⟨rfl, rfl, rfl, by decide +kernel, rfl, by decide +kernel, by decide +kernel⟩
abbrev s_p_grouped : Stmt := topS 7
abbrev N_p_grouped : List Str := ["points", "ties", "point", "near", "one", "other", "groups", "seen", "group", "waiting", "member"]
theorem sc_p_grouped : FnScope N_p_grouped ["points", "ties"] (defScope s_p_grouped) := ⟨rfl, rfl, rfl, by decide +kernel, rfl, by decide +kernel, by decide +kernel⟩
abbrev s_p_parts_points : Stmt := topS 9
abbrev N_p_parts_points : List Str := ["paired", "taken", "pair", "points", "ties", "point", "number", "tie", "group"]
theorem sc_p_parts_points : FnScope N_p_parts_points ["paired", "taken", "pair"] (defScope s_p_parts_points) := ⟨rfl, rfl, rfl, by decide +kernel, rfl, by decide +kernel, by decide +kernel⟩
abbrev s_p_is_bridge : Stmt := topS 10
abbrev N_p_is_bridge : List Str := ["paired", "taken", "pair", "other"]
theorem sc_p_is_bridge : FnScope N_p_is_bridge ["paired", "taken", "pair"] (defScope s_p_is_bridge) := ⟨rfl, rfl, rfl, by decide +kernel, rfl, by decide +kernel, by decide +kernel⟩
abbrev s_l_told : Stmt := topS 23
abbrev N_l_told : List Str := ["_law_paired_here", "_law_taken", "_law_pair", "_law_answer", "e"]
theorem sc_l_told : FnScope N_l_told ["_law_paired_here", "_law_taken", "_law_pair"] (defScope s_l_told) := ⟨rfl, rfl, rfl, by decide +kernel, rfl, by decide +kernel, by decide +kernel⟩
abbrev s_l_right : Stmt := topS 24
abbrev N_l_right : List Str := ["_law_many", "_law_free", "_law_taken", "_law_pairs", "_law_paired_here", "_law_pair", "_law_due_here", "_law_passed"]
theorem sc_l_right : FnScope N_l_right ["_law_many", "_law_free", "_law_taken", "_law_pairs"] (defScope s_l_right) := ⟨rfl, rfl, rfl, by decide +kernel, rfl, by decide +kernel, by decide +kernel⟩
abbrev s_law : Stmt := topS 25
abbrev N_law : List Str := ["_law_script", "_law_draws_here", "_law_extra", "_law_many", "_law_free", "_law_taken", "_law_bad_here", "_law_pairs"]
theorem sc_law : FnScope N_law ["_law_script"] (defScope s_law) := ⟨rfl, rfl, rfl, by decide +kernel, rfl, by decide +kernel, by decide +kernel⟩
/-- what the top has written -/
structure Txt (K : PySem.W.Frag) (mg : Str → Option Value) where
  A : CA3
  b_ValueError : mg "ValueError" = none
  b_abs : mg "abs" = none
  b_any : mg "any" = none
  b_bool : mg "bool" = none
  b_enumerate : mg "enumerate" = none
  b_int : mg "int" = none
  b_isinstance : mg "isinstance" = none
  b_len : mg "len" = none
  b_list : mg "list" = none
  b_range : mg "range" = none
  b_set : mg "set" = none
  b_sorted : mg "sorted" = none
  b_tuple : mg "tuple" = none
  g_ComesapartError : mg "ComesapartError" = some (.ref (A.tx .ComesapartError))
  g_PairedWeb : mg "PairedWeb" = some (.ref (A.ob .PairedWeb))
  c_PairedWeb : Cls K (A.ob .PairedWeb)
  g_TooLarge : mg "TooLarge" = some (.ref (A.tx .TooLarge))
  g_UnknownPair : mg "UnknownPair" = some (.ref (A.tx .UnknownPair))
  g_UnknownPoint : mg "UnknownPoint" = some (.ref (A.tx .UnknownPoint))
  n_PairedWeb_free : NoAttr K (A.ob .PairedWeb) "free"
  n_PairedWeb_pairs : NoAttr K (A.ob .PairedWeb) "pairs"
  u_PairedWeb_MOST_FREE : Value
  k_PairedWeb_MOST_FREE : Con K (A.ob .PairedWeb) "MOST_FREE" (.int 200) u_PairedWeb_MOST_FREE
  u_PairedWeb_MOST_PAIRS : Value
  k_PairedWeb_MOST_PAIRS : Con K (A.ob .PairedWeb) "MOST_PAIRS" (.int 100) u_PairedWeb_MOST_PAIRS
  a_l_cell : Addr
  f_l_cell : FuncData
  F_l_cell : Fun K "_law_cell" "_law_cell" s_l_cell a_l_cell f_l_cell
  d_l_cell : Binds K f_l_cell ["_law_script", "_law_k"] []
  g_l_cell : mg "_law_cell" = some (.ref a_l_cell)
  a_l_draws : Addr
  f_l_draws : FuncData
  F_l_draws : Fun K "_law_draws" "_law_draws" s_l_draws a_l_draws f_l_draws
  d_l_draws : Binds K f_l_draws ["_law_cell_here", "_law_many"] []
  g_l_draws : mg "_law_draws" = some (.ref a_l_draws)
  a_l_pick : Addr
  f_l_pick : FuncData
  F_l_pick : Fun K "_law_pick" "_law_pick" s_l_pick a_l_pick f_l_pick
  d_l_pick : Binds K f_l_pick ["_law_draws_here", "_law_k", "_law_many"] []
  g_l_pick : mg "_law_pick" = some (.ref a_l_pick)
  a_l_only : Addr
  f_l_only : FuncData
  F_l_only : Fun K "_law_only" "_law_only" s_l_only a_l_only f_l_only
  d_l_only : Binds K f_l_only ["_law_draws_here", "_law_most_pairs", "_law_most_free"] []
  g_l_only : mg "_law_only" = some (.ref a_l_only)
  a_l_paired : Addr
  f_l_paired : FuncData
  F_l_paired : Fun K "_law_paired" "_law_paired" s_l_paired a_l_paired f_l_paired
  d_l_paired : Binds K f_l_paired ["_law_draws_here", "_law_most_pairs", "_law_most_free"] []
  g_l_paired : mg "_law_paired" = some (.ref a_l_paired)
  a_l_some : Addr
  f_l_some : FuncData
  F_l_some : Fun K "_law_some" "_law_some" s_l_some a_l_some f_l_some
  d_l_some : Binds K f_l_some ["_law_draws_here", "_law_at", "_law_items", "_law_share"] []
  g_l_some : mg "_law_some" = some (.ref a_l_some)
  a_l_bad : Addr
  f_l_bad : FuncData
  F_l_bad : Fun K "_law_bad" "_law_bad" s_l_bad a_l_bad f_l_bad
  d_l_bad : Binds K f_l_bad ["_law_draws_here", "_law_at", "_law_taken", "_law_many"] []
  g_l_bad : mg "_law_bad" = some (.ref a_l_bad)
  a_m_PairedWebX_initX : Addr
  f_m_PairedWebX_initX : FuncData
  F_m_PairedWebX_initX : Fun K "__init__" "PairedWeb.__init__" s_m_PairedWebX_initX a_m_PairedWebX_initX f_m_PairedWebX_initX
  d_m_PairedWebX_initX : Binds K f_m_PairedWebX_initX ["self", "pairs", "free"] []
  mk_PairedWeb : Mk K (A.ob .PairedWeb) a_m_PairedWebX_initX
  a_l_parts : Addr
  f_l_parts : FuncData
  F_l_parts : Fun K "_law_parts" "_law_parts" s_l_parts a_l_parts f_l_parts
  d_l_parts : Binds K f_l_parts ["_law_many", "_law_free", "_law_taken", "_law_pair"] []
  g_l_parts : mg "_law_parts" = some (.ref a_l_parts)
  a_l_due : Addr
  f_l_due : FuncData
  F_l_due : Fun K "_law_due" "_law_due" s_l_due a_l_due f_l_due
  d_l_due : Binds K f_l_due ["_law_many", "_law_free", "_law_taken", "_law_pair"] []
  g_l_due : mg "_law_due" = some (.ref a_l_due)
  a_m_PairedWeb_points : Addr
  f_m_PairedWeb_points : FuncData
  F_m_PairedWeb_points : Fun K "points" "PairedWeb.points" s_m_PairedWeb_points a_m_PairedWeb_points f_m_PairedWeb_points
  d_m_PairedWeb_points : Binds K f_m_PairedWeb_points ["self"] []
  q_m_PairedWeb_points : Addr
  p_m_PairedWeb_points : PropOf K (A.ob .PairedWeb) "points" q_m_PairedWeb_points a_m_PairedWeb_points
  a_m_PairedWeb_all_ties : Addr
  f_m_PairedWeb_all_ties : FuncData
  F_m_PairedWeb_all_ties : Fun K "all_ties" "PairedWeb.all_ties" s_m_PairedWeb_all_ties a_m_PairedWeb_all_ties f_m_PairedWeb_all_ties
  d_m_PairedWeb_all_ties : Binds K f_m_PairedWeb_all_ties ["self"] []
  q_m_PairedWeb_all_ties : Addr
  p_m_PairedWeb_all_ties : PropOf K (A.ob .PairedWeb) "all_ties" q_m_PairedWeb_all_ties a_m_PairedWeb_all_ties
  a_p_grouped : Addr
  f_p_grouped : FuncData
  F_p_grouped : Fun K "grouped" "grouped" s_p_grouped a_p_grouped f_p_grouped
  d_p_grouped : Binds K f_p_grouped ["points", "ties"] []
  g_p_grouped : mg "grouped" = some (.ref a_p_grouped)
  a_p_parts_points : Addr
  f_p_parts_points : FuncData
  F_p_parts_points : Fun K "parts_points" "parts_points" s_p_parts_points a_p_parts_points f_p_parts_points
  d_p_parts_points : Binds K f_p_parts_points ["paired", "taken", "pair"] []
  g_p_parts_points : mg "parts_points" = some (.ref a_p_parts_points)
  a_p_is_bridge : Addr
  f_p_is_bridge : FuncData
  F_p_is_bridge : Fun K "is_bridge" "is_bridge" s_p_is_bridge a_p_is_bridge f_p_is_bridge
  d_p_is_bridge : Binds K f_p_is_bridge ["paired", "taken", "pair"] []
  g_p_is_bridge : mg "is_bridge" = some (.ref a_p_is_bridge)
  a_l_told : Addr
  f_l_told : FuncData
  F_l_told : Fun K "_law_told" "_law_told" s_l_told a_l_told f_l_told
  d_l_told : Binds K f_l_told ["_law_paired_here", "_law_taken", "_law_pair"] []
  g_l_told : mg "_law_told" = some (.ref a_l_told)
  a_l_right : Addr
  f_l_right : FuncData
  F_l_right : Fun K "_law_right" "_law_right" s_l_right a_l_right f_l_right
  d_l_right : Binds K f_l_right ["_law_many", "_law_free", "_law_taken", "_law_pairs"] []
  g_l_right : mg "_law_right" = some (.ref a_l_right)
  a_law : Addr
  f_law : FuncData
  F_law : Fun K "law" "law" s_law a_law f_law
  d_law : Binds K f_law ["_law_script"] []
  g_law : mg "law" = some (.ref a_law)
  i_TooLarge : Addr
  fx_TooLarge : FuncData
  x_TooLarge : XCls K (A.tx .TooLarge) i_TooLarge
  dx_TooLarge : Binds K fx_TooLarge ["self", "limit"] []
  i_UnknownPair : Addr
  fx_UnknownPair : FuncData
  x_UnknownPair : XCls K (A.tx .UnknownPair) i_UnknownPair
  dx_UnknownPair : Binds K fx_UnknownPair ["self", "pair"] []
  i_UnknownPoint : Addr
  fx_UnknownPoint : FuncData
  x_UnknownPoint : XCls K (A.tx .UnknownPoint) i_UnknownPoint
  dx_UnknownPoint : Binds K fx_UnknownPoint ["self", "point"] []
  no_UnknownPair_pair : PySem.W.findIn K (.ref (A.tx .UnknownPair)) "pair" = some none
  xf_UnknownPair : XfC K (A.tx .UnknownPair)
  exc : ∀ c, kn c = true → ExcC K (A.tx c)
  hx_ComesapartError : ∀ c, kn c = true → PySem.W.exmOne K (.ref (A.tx c)) (.ref (A.tx .ComesapartError)) = some (XC.isA c .ComesapartError)
  kx_UnknownPair : ∀ c, kn c = true → PySem.W.kitOne K (.ref (A.tx c)) (.ref (A.tx .UnknownPair)) = some (XC.isA c .UnknownPair)
  kx_ValueError : ∀ c, kn c = true → PySem.W.kitOne K (.ref (A.tx c)) (.type "ValueError") = some true
theorem hu64 {A : Around} {k : Nat} (hr : Room k A) : A.units + 64 < cLine := by have := hr.un; omega
theorem hu65 {A : Around} {k : Nat} (hr : Room k A) : A.units + 65 < cLine := by have := hr.un; omega
def sp_l_cell (C : GCtx) (A : CA3) : Sp := fun vs H Q E => ∃ script : (Sq Int), ∃ k : Int, (l_cell_m script k).nb ∧ FnX C [.val (dSq (d := dInt)) script, .val dInt k] (fun c => ∃ r, c = .val dInt r ∧ (l_cell_m script k) = .ok r) (fun x => ∃ px, (l_cell_m script k) = .exc px ∧ x = px.x A.tx) vs H Q E
theorem sp_l_cell_len {C : GCtx} {A : CA3} {vs H Q E} (h : sp_l_cell C A vs H Q E) : vs.length = 2 := by obtain ⟨_, _, _, h⟩ := h; exact h.len
theorem hs_l_cell {C : GCtx} {A : CA3} : ∀ script k, (l_cell_m script k).nb → SpX C (sp_l_cell C A) [.val (dSq (d := dInt)) script, .val dInt k] (fun c => ∃ r, c = .val dInt r ∧ (l_cell_m script k) = .ok r) (fun x => ∃ px, (l_cell_m script k) = .exc px ∧ x = px.x A.tx) := fun script k nb vs H Q E h => ⟨script, k, nb, h⟩
def sp_l_draws (C : GCtx) (A : CA3) : Sp := fun vs H Q E => ∃ cell_here : Int, ∃ many : Int, (l_draws_m cell_here many).nb ∧ FnX C [.val dInt cell_here, .val dInt many] (fun c => ∃ r, c = .own (dList (d := dInt)) (oList (d := dInt)) none r ∧ (l_draws_m cell_here many) = .ok r) (fun x => ∃ px, (l_draws_m cell_here many) = .exc px ∧ x = px.x A.tx) vs H Q E
theorem sp_l_draws_len {C : GCtx} {A : CA3} {vs H Q E} (h : sp_l_draws C A vs H Q E) : vs.length = 2 := by obtain ⟨_, _, _, h⟩ := h; exact h.len
theorem hs_l_draws {C : GCtx} {A : CA3} : ∀ cell_here many, (l_draws_m cell_here many).nb → SpX C (sp_l_draws C A) [.val dInt cell_here, .val dInt many] (fun c => ∃ r, c = .own (dList (d := dInt)) (oList (d := dInt)) none r ∧ (l_draws_m cell_here many) = .ok r) (fun x => ∃ px, (l_draws_m cell_here many) = .exc px ∧ x = px.x A.tx) := fun cell_here many nb vs H Q E h => ⟨cell_here, many, nb, h⟩
def sp_l_pick (C : GCtx) (A : CA3) : Sp := fun vs H Q E => ∃ draws_here : (List Int), ∃ k : Int, ∃ many : Int, (l_pick_m draws_here k many).nb ∧ FnX C [.val (dList (d := dInt)) draws_here, .val dInt k, .val dInt many] (fun c => ∃ r, c = .val dInt r ∧ (l_pick_m draws_here k many) = .ok r) (fun x => ∃ px, (l_pick_m draws_here k many) = .exc px ∧ x = px.x A.tx) vs H Q E
theorem sp_l_pick_len {C : GCtx} {A : CA3} {vs H Q E} (h : sp_l_pick C A vs H Q E) : vs.length = 3 := by obtain ⟨_, _, _, _, h⟩ := h; exact h.len
theorem hs_l_pick {C : GCtx} {A : CA3} : ∀ draws_here k many, (l_pick_m draws_here k many).nb → SpX C (sp_l_pick C A) [.val (dList (d := dInt)) draws_here, .val dInt k, .val dInt many] (fun c => ∃ r, c = .val dInt r ∧ (l_pick_m draws_here k many) = .ok r) (fun x => ∃ px, (l_pick_m draws_here k many) = .exc px ∧ x = px.x A.tx) := fun draws_here k many nb vs H Q E h => ⟨draws_here, k, many, nb, h⟩
def sp_l_only (C : GCtx) (A : CA3) : Sp := fun vs H Q E => ∃ draws_here : (List Int), ∃ most_pairs : Int, ∃ most_free : Int, (l_only_m draws_here most_pairs most_free).nb ∧ FnX C [.val (dList (d := dInt)) draws_here, .val dInt most_pairs, .val dInt most_free] (fun c => ∃ r, c = .val (dPair (d1 := dInt) (d2 := (dList (d := (dPair (d1 := dInt) (d2 := dInt)))))) r ∧ (l_only_m draws_here most_pairs most_free) = .ok r) (fun x => ∃ px, (l_only_m draws_here most_pairs most_free) = .exc px ∧ x = px.x A.tx) vs H Q E
theorem sp_l_only_len {C : GCtx} {A : CA3} {vs H Q E} (h : sp_l_only C A vs H Q E) : vs.length = 3 := by obtain ⟨_, _, _, _, h⟩ := h; exact h.len
theorem hs_l_only {C : GCtx} {A : CA3} : ∀ draws_here most_pairs most_free, (l_only_m draws_here most_pairs most_free).nb → SpX C (sp_l_only C A) [.val (dList (d := dInt)) draws_here, .val dInt most_pairs, .val dInt most_free] (fun c => ∃ r, c = .val (dPair (d1 := dInt) (d2 := (dList (d := (dPair (d1 := dInt) (d2 := dInt)))))) r ∧ (l_only_m draws_here most_pairs most_free) = .ok r) (fun x => ∃ px, (l_only_m draws_here most_pairs most_free) = .exc px ∧ x = px.x A.tx) := fun draws_here most_pairs most_free nb vs H Q E h => ⟨draws_here, most_pairs, most_free, nb, h⟩
def sp_l_paired (C : GCtx) (A : CA3) : Sp := fun vs H Q E => ∃ draws_here : (List Int), ∃ most_pairs : Int, ∃ most_free : Int, (l_paired_m draws_here most_pairs most_free).nb ∧ FnX C [.val (dList (d := dInt)) draws_here, .val dInt most_pairs, .val dInt most_free] (fun c => ∃ r, c = .val (dPair (d1 := dInt) (d2 := (dList (d := (dPair (d1 := dInt) (d2 := dInt)))))) r ∧ (l_paired_m draws_here most_pairs most_free) = .ok r) (fun x => ∃ px, (l_paired_m draws_here most_pairs most_free) = .exc px ∧ x = px.x A.tx) vs H Q E
theorem sp_l_paired_len {C : GCtx} {A : CA3} {vs H Q E} (h : sp_l_paired C A vs H Q E) : vs.length = 3 := by obtain ⟨_, _, _, _, h⟩ := h; exact h.len
theorem hs_l_paired {C : GCtx} {A : CA3} : ∀ draws_here most_pairs most_free, (l_paired_m draws_here most_pairs most_free).nb → SpX C (sp_l_paired C A) [.val (dList (d := dInt)) draws_here, .val dInt most_pairs, .val dInt most_free] (fun c => ∃ r, c = .val (dPair (d1 := dInt) (d2 := (dList (d := (dPair (d1 := dInt) (d2 := dInt)))))) r ∧ (l_paired_m draws_here most_pairs most_free) = .ok r) (fun x => ∃ px, (l_paired_m draws_here most_pairs most_free) = .exc px ∧ x = px.x A.tx) := fun draws_here most_pairs most_free nb vs H Q E h => ⟨draws_here, most_pairs, most_free, nb, h⟩
def sp_l_some (C : GCtx) (A : CA3) : Sp := fun vs H Q E => ∃ draws_here : (List Int), ∃ at_ : Int, ∃ items : (List Int), ∃ share : Int, (l_some_m draws_here at_ items share).nb ∧ FnX C [.val (dList (d := dInt)) draws_here, .val dInt at_, .val (dList (d := dInt)) items, .val dInt share] (fun c => ∃ r, c = .own (dList (d := dInt)) (oList (d := dInt)) none r ∧ (l_some_m draws_here at_ items share) = .ok r) (fun x => ∃ px, (l_some_m draws_here at_ items share) = .exc px ∧ x = px.x A.tx) vs H Q E
theorem sp_l_some_len {C : GCtx} {A : CA3} {vs H Q E} (h : sp_l_some C A vs H Q E) : vs.length = 4 := by obtain ⟨_, _, _, _, _, h⟩ := h; exact h.len
theorem hs_l_some {C : GCtx} {A : CA3} : ∀ draws_here at_ items share, (l_some_m draws_here at_ items share).nb → SpX C (sp_l_some C A) [.val (dList (d := dInt)) draws_here, .val dInt at_, .val (dList (d := dInt)) items, .val dInt share] (fun c => ∃ r, c = .own (dList (d := dInt)) (oList (d := dInt)) none r ∧ (l_some_m draws_here at_ items share) = .ok r) (fun x => ∃ px, (l_some_m draws_here at_ items share) = .exc px ∧ x = px.x A.tx) := fun draws_here at_ items share nb vs H Q E h => ⟨draws_here, at_, items, share, nb, h⟩
def sp_l_bad (C : GCtx) (A : CA3) : Sp := fun vs H Q E => ∃ draws_here : (List Int), ∃ at_ : Int, ∃ taken : (List Int), ∃ many : Int, (l_bad_m draws_here at_ taken many).nb ∧ FnX C [.val (dList (d := dInt)) draws_here, .val dInt at_, .val (dList (d := dInt)) taken, .val dInt many] (fun c => ∃ r, c = .own (dList (d := dInt)) (oList (d := dInt)) none r ∧ (l_bad_m draws_here at_ taken many) = .ok r) (fun x => ∃ px, (l_bad_m draws_here at_ taken many) = .exc px ∧ x = px.x A.tx) vs H Q E
theorem sp_l_bad_len {C : GCtx} {A : CA3} {vs H Q E} (h : sp_l_bad C A vs H Q E) : vs.length = 4 := by obtain ⟨_, _, _, _, _, h⟩ := h; exact h.len
theorem hs_l_bad {C : GCtx} {A : CA3} : ∀ draws_here at_ taken many, (l_bad_m draws_here at_ taken many).nb → SpX C (sp_l_bad C A) [.val (dList (d := dInt)) draws_here, .val dInt at_, .val (dList (d := dInt)) taken, .val dInt many] (fun c => ∃ r, c = .own (dList (d := dInt)) (oList (d := dInt)) none r ∧ (l_bad_m draws_here at_ taken many) = .ok r) (fun x => ∃ px, (l_bad_m draws_here at_ taken many) = .exc px ∧ x = px.x A.tx) := fun draws_here at_ taken many nb vs H Q E h => ⟨draws_here, at_, taken, many, nb, h⟩
def sp_m_PairedWebX_initX (C : GCtx) (A : CA3) : Sp := fun vs H Q E => ∃ pairs : Int, ∃ free : (List (Int × Int)), (m_PairedWebX_initX_m pairs free).nb ∧ FnI C (oPairedWeb A) (A.ob .PairedWeb) [.val dInt pairs, .val (dList (d := (dPair (d1 := dInt) (d2 := dInt)))) free] (fun r => (m_PairedWebX_initX_m pairs free) = .ok r) (fun x => ∃ px, (m_PairedWebX_initX_m pairs free) = .exc px ∧ x = px.x A.tx) vs H Q E
theorem sp_m_PairedWebX_initX_len {C : GCtx} {A : CA3} {vs H Q E} (h : sp_m_PairedWebX_initX C A vs H Q E) : vs.length = 3 := by obtain ⟨_, _, _, h⟩ := h; exact h.len
theorem hs_m_PairedWebX_initX {C : GCtx} {A : CA3} : ∀ pairs free, (m_PairedWebX_initX_m pairs free).nb → SpI C (sp_m_PairedWebX_initX C A) (oPairedWeb A) (A.ob .PairedWeb) [.val dInt pairs, .val (dList (d := (dPair (d1 := dInt) (d2 := dInt)))) free] (fun r => (m_PairedWebX_initX_m pairs free) = .ok r) (fun x => ∃ px, (m_PairedWebX_initX_m pairs free) = .exc px ∧ x = px.x A.tx) := fun pairs free nb vs H Q E h => ⟨pairs, free, nb, h⟩
def sp_l_parts (C : GCtx) (A : CA3) : Sp := fun vs H Q E => ∃ many : Int, ∃ free : (List (Int × Int)), ∃ taken : (List Int), ∃ pair : Int, (l_parts_m many free taken pair).nb ∧ FnX C [.val dInt many, .val (dList (d := (dPair (d1 := dInt) (d2 := dInt)))) free, .val (dList (d := dInt)) taken, .val dInt pair] (fun c => ∃ r, c = .val dBool r ∧ (l_parts_m many free taken pair) = .ok r) (fun x => ∃ px, (l_parts_m many free taken pair) = .exc px ∧ x = px.x A.tx) vs H Q E
theorem sp_l_parts_len {C : GCtx} {A : CA3} {vs H Q E} (h : sp_l_parts C A vs H Q E) : vs.length = 4 := by obtain ⟨_, _, _, _, _, h⟩ := h; exact h.len
theorem hs_l_parts {C : GCtx} {A : CA3} : ∀ many free taken pair, (l_parts_m many free taken pair).nb → SpX C (sp_l_parts C A) [.val dInt many, .val (dList (d := (dPair (d1 := dInt) (d2 := dInt)))) free, .val (dList (d := dInt)) taken, .val dInt pair] (fun c => ∃ r, c = .val dBool r ∧ (l_parts_m many free taken pair) = .ok r) (fun x => ∃ px, (l_parts_m many free taken pair) = .exc px ∧ x = px.x A.tx) := fun many free taken pair nb vs H Q E h => ⟨many, free, taken, pair, nb, h⟩
def sp_l_due (C : GCtx) (A : CA3) : Sp := fun vs H Q E => ∃ many : Int, ∃ free : (List (Int × Int)), ∃ taken : (List Int), ∃ pair : Int, (l_due_m many free taken pair).nb ∧ FnX C [.val dInt many, .val (dList (d := (dPair (d1 := dInt) (d2 := dInt)))) free, .val (dList (d := dInt)) taken, .val dInt pair] (fun c => ∃ r, c = .val dU r ∧ (l_due_m many free taken pair) = .ok r) (fun x => ∃ px, (l_due_m many free taken pair) = .exc px ∧ x = px.x A.tx) vs H Q E
theorem sp_l_due_len {C : GCtx} {A : CA3} {vs H Q E} (h : sp_l_due C A vs H Q E) : vs.length = 4 := by obtain ⟨_, _, _, _, _, h⟩ := h; exact h.len
theorem hs_l_due {C : GCtx} {A : CA3} : ∀ many free taken pair, (l_due_m many free taken pair).nb → SpX C (sp_l_due C A) [.val dInt many, .val (dList (d := (dPair (d1 := dInt) (d2 := dInt)))) free, .val (dList (d := dInt)) taken, .val dInt pair] (fun c => ∃ r, c = .val dU r ∧ (l_due_m many free taken pair) = .ok r) (fun x => ∃ px, (l_due_m many free taken pair) = .exc px ∧ x = px.x A.tx) := fun many free taken pair nb vs H Q E h => ⟨many, free, taken, pair, nb, h⟩
def sp_m_PairedWeb_points (C : GCtx) (A : CA3) : Sp := fun vs H Q E => ∃ self : PairedWebM, (m_PairedWeb_points_m self).nb ∧ FnX C [.val (dPairedWeb A) self] (fun c => ∃ r, c = .val dInt r ∧ (m_PairedWeb_points_m self) = .ok r) (fun x => ∃ px, (m_PairedWeb_points_m self) = .exc px ∧ x = px.x A.tx) vs H Q E
theorem sp_m_PairedWeb_points_len {C : GCtx} {A : CA3} {vs H Q E} (h : sp_m_PairedWeb_points C A vs H Q E) : vs.length = 1 := by obtain ⟨_, _, h⟩ := h; exact h.len
theorem hs_m_PairedWeb_points {C : GCtx} {A : CA3} : ∀ self, (m_PairedWeb_points_m self).nb → SpX C (sp_m_PairedWeb_points C A) [.val (dPairedWeb A) self] (fun c => ∃ r, c = .val dInt r ∧ (m_PairedWeb_points_m self) = .ok r) (fun x => ∃ px, (m_PairedWeb_points_m self) = .exc px ∧ x = px.x A.tx) := fun self nb vs H Q E h => ⟨self, nb, h⟩
def sp_m_PairedWeb_all_ties (C : GCtx) (A : CA3) : Sp := fun vs H Q E => ∃ self : PairedWebM, (m_PairedWeb_all_ties_m self).nb ∧ FnX C [.val (dPairedWeb A) self] (fun c => ∃ r, c = .val (dTup (d := (dPair (d1 := dInt) (d2 := dInt)))) r ∧ (m_PairedWeb_all_ties_m self) = .ok r) (fun x => ∃ px, (m_PairedWeb_all_ties_m self) = .exc px ∧ x = px.x A.tx) vs H Q E
theorem sp_m_PairedWeb_all_ties_len {C : GCtx} {A : CA3} {vs H Q E} (h : sp_m_PairedWeb_all_ties C A vs H Q E) : vs.length = 1 := by obtain ⟨_, _, h⟩ := h; exact h.len
theorem hs_m_PairedWeb_all_ties {C : GCtx} {A : CA3} : ∀ self, (m_PairedWeb_all_ties_m self).nb → SpX C (sp_m_PairedWeb_all_ties C A) [.val (dPairedWeb A) self] (fun c => ∃ r, c = .val (dTup (d := (dPair (d1 := dInt) (d2 := dInt)))) r ∧ (m_PairedWeb_all_ties_m self) = .ok r) (fun x => ∃ px, (m_PairedWeb_all_ties_m self) = .exc px ∧ x = px.x A.tx) := fun self nb vs H Q E h => ⟨self, nb, h⟩
def sp_p_grouped (C : GCtx) (A : CA3) : Sp := fun vs H Q E => ∃ points : (List Int), ∃ ties : (List (Int × Int)), (p_grouped_m points ties).nb ∧ FnX C [.val (dList (d := dInt)) points, .val (dList (d := (dPair (d1 := dInt) (d2 := dInt)))) ties] (fun c => ∃ r, c = .own (dList (d := (dList (d := dInt)))) (oList (d := (dList (d := dInt)))) none r ∧ (p_grouped_m points ties) = .ok r) (fun x => ∃ px, (p_grouped_m points ties) = .exc px ∧ x = px.x A.tx) vs H Q E
theorem sp_p_grouped_len {C : GCtx} {A : CA3} {vs H Q E} (h : sp_p_grouped C A vs H Q E) : vs.length = 2 := by obtain ⟨_, _, _, h⟩ := h; exact h.len
theorem hs_p_grouped {C : GCtx} {A : CA3} : ∀ points ties, (p_grouped_m points ties).nb → SpX C (sp_p_grouped C A) [.val (dList (d := dInt)) points, .val (dList (d := (dPair (d1 := dInt) (d2 := dInt)))) ties] (fun c => ∃ r, c = .own (dList (d := (dList (d := dInt)))) (oList (d := (dList (d := dInt)))) none r ∧ (p_grouped_m points ties) = .ok r) (fun x => ∃ px, (p_grouped_m points ties) = .exc px ∧ x = px.x A.tx) := fun points ties nb vs H Q E h => ⟨points, ties, nb, h⟩
def sp_p_parts_points (C : GCtx) (A : CA3) : Sp := fun vs H Q E => ∃ paired : PairedWebM, ∃ taken : (List Int), ∃ pair : Int, (p_parts_points_m paired taken pair).nb ∧ FnX C [.val (dPairedWeb A) paired, .val (dList (d := dInt)) taken, .val dInt pair] (fun c => ∃ r, c = .val dBool r ∧ (p_parts_points_m paired taken pair) = .ok r) (fun x => ∃ px, (p_parts_points_m paired taken pair) = .exc px ∧ x = px.x A.tx) vs H Q E
theorem sp_p_parts_points_len {C : GCtx} {A : CA3} {vs H Q E} (h : sp_p_parts_points C A vs H Q E) : vs.length = 3 := by obtain ⟨_, _, _, _, h⟩ := h; exact h.len
theorem hs_p_parts_points {C : GCtx} {A : CA3} : ∀ paired taken pair, (p_parts_points_m paired taken pair).nb → SpX C (sp_p_parts_points C A) [.val (dPairedWeb A) paired, .val (dList (d := dInt)) taken, .val dInt pair] (fun c => ∃ r, c = .val dBool r ∧ (p_parts_points_m paired taken pair) = .ok r) (fun x => ∃ px, (p_parts_points_m paired taken pair) = .exc px ∧ x = px.x A.tx) := fun paired taken pair nb vs H Q E h => ⟨paired, taken, pair, nb, h⟩
def sp_p_is_bridge (C : GCtx) (A : CA3) : Sp := fun vs H Q E => ∃ paired : PairedWebM, ∃ taken : (List Int), ∃ pair : Int, (p_is_bridge_m paired taken pair).nb ∧ FnX C [.val (dPairedWeb A) paired, .val (dList (d := dInt)) taken, .val dInt pair] (fun c => ∃ r, c = .val dBool r ∧ (p_is_bridge_m paired taken pair) = .ok r) (fun x => ∃ px, (p_is_bridge_m paired taken pair) = .exc px ∧ x = px.x A.tx) vs H Q E
theorem sp_p_is_bridge_len {C : GCtx} {A : CA3} {vs H Q E} (h : sp_p_is_bridge C A vs H Q E) : vs.length = 3 := by obtain ⟨_, _, _, _, h⟩ := h; exact h.len
theorem hs_p_is_bridge {C : GCtx} {A : CA3} : ∀ paired taken pair, (p_is_bridge_m paired taken pair).nb → SpX C (sp_p_is_bridge C A) [.val (dPairedWeb A) paired, .val (dList (d := dInt)) taken, .val dInt pair] (fun c => ∃ r, c = .val dBool r ∧ (p_is_bridge_m paired taken pair) = .ok r) (fun x => ∃ px, (p_is_bridge_m paired taken pair) = .exc px ∧ x = px.x A.tx) := fun paired taken pair nb vs H Q E h => ⟨paired, taken, pair, nb, h⟩
def sp_l_told (C : GCtx) (A : CA3) : Sp := fun vs H Q E => ∃ paired_here : PairedWebM, ∃ taken : (List Int), ∃ pair : Int, (l_told_m paired_here taken pair).nb ∧ FnX C [.val (dPairedWeb A) paired_here, .val (dList (d := dInt)) taken, .val dInt pair] (fun c => ∃ r, c = .val dU r ∧ (l_told_m paired_here taken pair) = .ok r) (fun x => ∃ px, (l_told_m paired_here taken pair) = .exc px ∧ x = px.x A.tx) vs H Q E
theorem sp_l_told_len {C : GCtx} {A : CA3} {vs H Q E} (h : sp_l_told C A vs H Q E) : vs.length = 3 := by obtain ⟨_, _, _, _, h⟩ := h; exact h.len
theorem hs_l_told {C : GCtx} {A : CA3} : ∀ paired_here taken pair, (l_told_m paired_here taken pair).nb → SpX C (sp_l_told C A) [.val (dPairedWeb A) paired_here, .val (dList (d := dInt)) taken, .val dInt pair] (fun c => ∃ r, c = .val dU r ∧ (l_told_m paired_here taken pair) = .ok r) (fun x => ∃ px, (l_told_m paired_here taken pair) = .exc px ∧ x = px.x A.tx) := fun paired_here taken pair nb vs H Q E h => ⟨paired_here, taken, pair, nb, h⟩
def sp_p_parts_points_v2 (C : GCtx) (A : CA3) : Sp := fun vs H Q E => ∃ paired : PairedWebM, ∃ taken : (Tup Int), ∃ pair : Int, (p_parts_points_v2_m paired taken pair).nb ∧ FnX C [.val (dPairedWeb A) paired, .val (dTup (d := dInt)) taken, .val dInt pair] (fun c => ∃ r, c = .val dBool r ∧ (p_parts_points_v2_m paired taken pair) = .ok r) (fun x => ∃ px, (p_parts_points_v2_m paired taken pair) = .exc px ∧ x = px.x A.tx) vs H Q E
theorem sp_p_parts_points_v2_len {C : GCtx} {A : CA3} {vs H Q E} (h : sp_p_parts_points_v2 C A vs H Q E) : vs.length = 3 := by obtain ⟨_, _, _, _, h⟩ := h; exact h.len
theorem hs_p_parts_points_v2 {C : GCtx} {A : CA3} : ∀ paired taken pair, (p_parts_points_v2_m paired taken pair).nb → SpX C (sp_p_parts_points_v2 C A) [.val (dPairedWeb A) paired, .val (dTup (d := dInt)) taken, .val dInt pair] (fun c => ∃ r, c = .val dBool r ∧ (p_parts_points_v2_m paired taken pair) = .ok r) (fun x => ∃ px, (p_parts_points_v2_m paired taken pair) = .exc px ∧ x = px.x A.tx) := fun paired taken pair nb vs H Q E h => ⟨paired, taken, pair, nb, h⟩
def sp_p_is_bridge_v2 (C : GCtx) (A : CA3) : Sp := fun vs H Q E => ∃ paired : PairedWebM, ∃ taken : (Tup Int), ∃ pair : Int, (p_is_bridge_v2_m paired taken pair).nb ∧ FnX C [.val (dPairedWeb A) paired, .val (dTup (d := dInt)) taken, .val dInt pair] (fun c => ∃ r, c = .val dBool r ∧ (p_is_bridge_v2_m paired taken pair) = .ok r) (fun x => ∃ px, (p_is_bridge_v2_m paired taken pair) = .exc px ∧ x = px.x A.tx) vs H Q E
theorem sp_p_is_bridge_v2_len {C : GCtx} {A : CA3} {vs H Q E} (h : sp_p_is_bridge_v2 C A vs H Q E) : vs.length = 3 := by obtain ⟨_, _, _, _, h⟩ := h; exact h.len
theorem hs_p_is_bridge_v2 {C : GCtx} {A : CA3} : ∀ paired taken pair, (p_is_bridge_v2_m paired taken pair).nb → SpX C (sp_p_is_bridge_v2 C A) [.val (dPairedWeb A) paired, .val (dTup (d := dInt)) taken, .val dInt pair] (fun c => ∃ r, c = .val dBool r ∧ (p_is_bridge_v2_m paired taken pair) = .ok r) (fun x => ∃ px, (p_is_bridge_v2_m paired taken pair) = .exc px ∧ x = px.x A.tx) := fun paired taken pair nb vs H Q E h => ⟨paired, taken, pair, nb, h⟩
def sp_l_told_v2 (C : GCtx) (A : CA3) : Sp := fun vs H Q E => ∃ paired_here : PairedWebM, ∃ taken : (Tup Int), ∃ pair : Int, (l_told_v2_m paired_here taken pair).nb ∧ FnX C [.val (dPairedWeb A) paired_here, .val (dTup (d := dInt)) taken, .val dInt pair] (fun c => ∃ r, c = .val dU r ∧ (l_told_v2_m paired_here taken pair) = .ok r) (fun x => ∃ px, (l_told_v2_m paired_here taken pair) = .exc px ∧ x = px.x A.tx) vs H Q E
theorem sp_l_told_v2_len {C : GCtx} {A : CA3} {vs H Q E} (h : sp_l_told_v2 C A vs H Q E) : vs.length = 3 := by obtain ⟨_, _, _, _, h⟩ := h; exact h.len
theorem hs_l_told_v2 {C : GCtx} {A : CA3} : ∀ paired_here taken pair, (l_told_v2_m paired_here taken pair).nb → SpX C (sp_l_told_v2 C A) [.val (dPairedWeb A) paired_here, .val (dTup (d := dInt)) taken, .val dInt pair] (fun c => ∃ r, c = .val dU r ∧ (l_told_v2_m paired_here taken pair) = .ok r) (fun x => ∃ px, (l_told_v2_m paired_here taken pair) = .exc px ∧ x = px.x A.tx) := fun paired_here taken pair nb vs H Q E h => ⟨paired_here, taken, pair, nb, h⟩
def sp_l_right (C : GCtx) (A : CA3) : Sp := fun vs H Q E => ∃ many : Int, ∃ free : (List (Int × Int)), ∃ taken : (List Int), ∃ pairs : (List Int), (l_right_m many free taken pairs).nb ∧ FnX C [.val dInt many, .val (dList (d := (dPair (d1 := dInt) (d2 := dInt)))) free, .val (dList (d := dInt)) taken, .val (dList (d := dInt)) pairs] (fun c => ∃ r, c = .val dBool r ∧ (l_right_m many free taken pairs) = .ok r) (fun x => ∃ px, (l_right_m many free taken pairs) = .exc px ∧ x = px.x A.tx) vs H Q E
theorem sp_l_right_len {C : GCtx} {A : CA3} {vs H Q E} (h : sp_l_right C A vs H Q E) : vs.length = 4 := by obtain ⟨_, _, _, _, _, h⟩ := h; exact h.len
theorem hs_l_right {C : GCtx} {A : CA3} : ∀ many free taken pairs, (l_right_m many free taken pairs).nb → SpX C (sp_l_right C A) [.val dInt many, .val (dList (d := (dPair (d1 := dInt) (d2 := dInt)))) free, .val (dList (d := dInt)) taken, .val (dList (d := dInt)) pairs] (fun c => ∃ r, c = .val dBool r ∧ (l_right_m many free taken pairs) = .ok r) (fun x => ∃ px, (l_right_m many free taken pairs) = .exc px ∧ x = px.x A.tx) := fun many free taken pairs nb vs H Q E h => ⟨many, free, taken, pairs, nb, h⟩
def sp_law (C : GCtx) : Sp := fun vs H Q _ => ∃ s : Sq Int, law_m s = .ok true ∧ Fn C [.val (dSq (d := dInt)) s] (fun c => c = .val dBool true) vs H Q
theorem sp_law_len {C : GCtx} {vs H Q E} (h : sp_law C vs H Q E) : vs.length = 1 := by obtain ⟨_, _, h⟩ := h; exact h.len
end K27

namespace K27
open PySem L2 G PM
set_option maxHeartbeats 4000000 in
theorem ok_l_cell {P : Program} {w : World} {K : PySem.W.Frag} {mg : Str → Option Value} {base : Heap} (T : Txt K mg) : FnOk P w K mg base (L2.CX P w) 1 T.a_l_cell T.f_l_cell ["_law_script", "_law_k"] (sp_l_cell ⟨P, w, K⟩ T.A) := by
  have nd := sc_l_cell.nd
  refine T.F_l_cell.okX sc_l_cell (fun vs H Q E h => ?_) (fun cdv A outer s H vs Q E hr h => ?_)
  · exact sp_l_cell_len h
  have hu := hu_of hr
  refine ⟨_, (pss_cons (ps_if (pt_cmpR op_lt (pv 1) (pe_callB (len_K K) (by rfl) T.b_len (by decide +kernel) (pa_cons (pv 0) pa_nil)) (nomark _))
        (pss_one (ps_ret (pe_ix (ix_qK K) (pv 0) (pv 1) (fun _ _ => rfl))))
        pss_nil)
      (pss_one (ps_ret pe_int))), ?_⟩
  try dsimp only [cxOf]
  obtain ⟨script, k, nb, h⟩ := h
  refine Zm.body (js := [0, 1]) (m := l_cell_m script k) nb h ?_
  refine zm_to (Γ2 := [(.val (dSq (d := dInt)) script), (.val dInt k)]) rfl ?_
  delta l_cell_m
  refine zm_ifP (te_eq (te_test (we_lt (re_w (we_var rfl)) (re_w (we_lenQ (re_w (we_var rfl)))))) rfl) ?_ ?_
  · exact zm_ret (we_eq (we_ixQ (we_var rfl) (re_w (we_var rfl))) rfl)
  · refine zm_skip ?_
    refine zm_last ?_
    exact zm_ret (we_eq we_int rfl)
end K27

namespace K27
open PySem L2 G PM
set_option maxHeartbeats 4000000 in
theorem ok_l_draws {P : Program} {w : World} {K : PySem.W.Frag} {mg : Str → Option Value} {base : Heap} (T : Txt K mg) : FnOk P w K mg base (L2.CX P w) 1 T.a_l_draws T.f_l_draws ["_law_cell_here", "_law_many"] (sp_l_draws ⟨P, w, K⟩ T.A) := by
  have nd := sc_l_draws.nd
  refine T.F_l_draws.okX sc_l_draws (fun vs H Q E h => ?_) (fun cdv A outer s H vs Q E hr h => ?_)
  · exact sp_l_draws_len h
  have hu := hu_of hr
  refine ⟨_, (pss_cons (ps_set (i := 2) nd rfl (Or.inl rfl) (pe_callB call_abs (by rfl) T.b_abs (by decide +kernel) (pa_cons (pe_callTy call_int1 (by rfl) T.b_int (by decide +kernel) (pa_cons (pv 0) pa_nil)) pa_nil)))
      (pss_cons (ps_set (i := 3) nd rfl (Or.inl rfl) (pe_cmpR op_ge (pv 2) (pe_op op_pow pe_int pe_int) (nomark _)))
      (pss_cons (ps_set (i := 4) nd rfl (Or.inl rfl) (pe_op op_add (pe_op op_mod (pe_callTy call_int1 (by rfl) T.b_int (by decide +kernel) (pa_cons (pv 2) pa_nil)) pe_int) pe_int))
      (pss_cons (ps_set (i := 5) nd rfl (Or.inl rfl) (pe_lst pa_nil))
      (pss_cons (ps_for (passes_of rfl) rfl (pi_range1 (by rfl) T.b_range (pa_cons (pv 1) pa_nil)) (pg_name (i := 6) nd rfl (Or.inl rfl))
        (pss_cons (ps_set (i := 4) nd rfl (Or.inl rfl) (pe_op op_mod (pe_callTy call_int1 (by rfl) T.b_int (by decide +kernel) (pa_cons (pe_op op_add (pe_op op_add (pe_op op_mul (pv 4) pe_int) (pe_op op_mul pe_int (pv 6))) pe_int) pa_nil)) pe_int))
      (pss_one (ps_if (PW.pt (pw_and (pt_val (pv 3)) (pw_and1 (pt_cmpR op_gt (pv 2) pe_int (nomark _)))))
        (pss_cons (ps_expr (bm_K K PySem.F.plainAttrs_list PySem.F.slot_list_append PySem.F.type_list_append mt_append (pv 5) (pa_cons (pe_op op_mod (pe_callTy call_int1 (by rfl) T.b_int (by decide +kernel) (pa_cons (pv 2) pa_nil)) pe_int) pa_nil)))
      (pss_one (ps_set (i := 2) nd rfl (Or.inl rfl) (pe_op op_fdiv (pv 2) pe_int))))
        (pss_one (ps_expr (bm_K K PySem.F.plainAttrs_list PySem.F.slot_list_append PySem.F.type_list_append mt_append (pv 5) (pa_cons (pe_op op_mod (pe_op op_fdiv (pv 4) pe_int) pe_int) pa_nil))))))))
      (pss_one (ps_ret (pv 5)))))))), ?_⟩
  try dsimp only [cxOf]
  obtain ⟨cell_here, many, nb, h⟩ := h
  refine Zm.body (js := [0, 1, 2, 3, 4, 5, 6]) (m := l_draws_m cell_here many) nb h ?_
  refine zm_to (Γ2 := [(.val dInt cell_here), (.val dInt many), .no, .no, .no, .no, .no]) rfl ?_
  delta l_draws_m
  refine zm_set (i := 2) rfl (by decide) (we_eq (we_abs (re_w (we_int1 (re_w (we_var rfl))))) rfl) fun rest_1 => ?_
  refine zm_set (i := 3) rfl (by decide) (we_eq (we_ge (re_w (we_var rfl)) (re_w (we_powC (c := 1000000000000000000) (re_w we_int) (re_w we_int) (by decide)))) rfl) fun exact_2 => ?_
  refine zm_set (i := 4) rfl (by decide) (we_eq (we_add (re_w (we_modC (re_w (we_int1 (re_w (we_var rfl)))) (re_w we_int))) (re_w we_int)) rfl) fun mixed_3 => ?_
  refine zm_setO (i := 5) rfl (by decide) (oe_eq (oe_lst0 (d := dInt)) rfl) fun draws_here_4 => ?_
  refine zm_for [6] (fun s5 => [(.val dInt cell_here), (.val dInt many), (.val dInt s5.1), (.val dBool exact_2), (.val dInt s5.2.1), (.own (dList (d := dInt)) (oList (d := dInt)) none s5.2.2), .no]) (rest_1, mixed_3, draws_here_4) (wlen 7 (by exact rfl) (by exact rfl) (by decide)) rfl (fun _ => (wlen 7 (by exact rfl) (by exact rfl) (by decide))) (ie_eq (ie_range (re_w (we_var rfl))) rfl) (fun s5 x6 => (a_name rfl ⟨(wlen 7 (by exact rfl) (by exact rfl) (by decide)), ?_⟩)) fun s11 => ?_
  · refine zm_set (i := 4) rfl (by decide) (we_eq (we_modC (re_w (we_int1 (re_w (we_add (re_w (we_add (re_w (we_mulCr (re_w (we_var rfl)) (re_w we_int))) (re_w (we_mulCl (re_w we_int) (re_w (we_var rfl)))))) (re_w we_int))))) (re_w we_int)) rfl) fun mixed_7 => ?_
    refine zm_last ?_
    refine zm_ifP (te_eq (te_andP (te_B (we_var rfl)) (te_test (we_gt (re_w (we_var rfl)) (re_w we_int)))) rfl) ?_ ?_
    · refine zm_assoc ?_
      refine zm_append (i := 5) rfl (by decide) (we_eq (we_modC (re_w (we_int1 (re_w (we_var rfl)))) (re_w we_int)) rfl) fun draws_here_8 => ?_
      refine zm_set (i := 2) rfl (by decide) (we_eq (we_fdivC (re_w (we_var rfl)) (re_w we_int)) rfl) fun rest_9 => ?_
      exact zm_nextL rfl
    · refine zm_append (i := 5) rfl (by decide) (we_eq (we_modC (re_w (we_fdivC (re_w (we_var rfl)) (re_w we_int))) (re_w we_int)) rfl) fun draws_here_10 => ?_
      exact zm_nextL rfl
  · refine zm_last ?_
    exact zm_retV rfl
end K27

namespace K27
open PySem L2 G PM
set_option maxHeartbeats 4000000 in
theorem ok_l_pick {P : Program} {w : World} {K : PySem.W.Frag} {mg : Str → Option Value} {base : Heap} (T : Txt K mg) : FnOk P w K mg base (L2.CX P w) 1 T.a_l_pick T.f_l_pick ["_law_draws_here", "_law_k", "_law_many"] (sp_l_pick ⟨P, w, K⟩ T.A) := by
  have nd := sc_l_pick.nd
  refine T.F_l_pick.okX sc_l_pick (fun vs H Q E h => ?_) (fun cdv A outer s H vs Q E hr h => ?_)
  · exact sp_l_pick_len h
  have hu := hu_of hr
  refine ⟨_, (pss_cons (ps_if (PW.pt (pw_or (pt_cmpR op_lt (pv 2) pe_int (nomark _)) (pw_or1 (pt_cmpR op_eq (pe_callB (len_K K) (by rfl) T.b_len (by decide +kernel) (pa_cons (pv 0) pa_nil)) pe_int (nomark _)))))
        (pss_one (ps_ret pe_int))
        pss_nil)
      (pss_one (ps_ret (pe_op op_mod (pe_callTy call_int1 (by rfl) T.b_int (by decide +kernel) (pa_cons (pe_ix (ix_lK K) (pv 0) (pe_op op_mod (pe_callTy call_int1 (by rfl) T.b_int (by decide +kernel) (pa_cons (pv 1) pa_nil)) (pe_callB (len_K K) (by rfl) T.b_len (by decide +kernel) (pa_cons (pv 0) pa_nil))) (fun _ _ => rfl)) pa_nil)) (pv 2))))), ?_⟩
  try dsimp only [cxOf]
  obtain ⟨draws_here, k, many, nb, h⟩ := h
  refine Zm.body (js := [0, 1, 2]) (m := l_pick_m draws_here k many) nb h ?_
  refine zm_to (Γ2 := [(.val (dList (d := dInt)) draws_here), (.val dInt k), (.val dInt many)]) rfl ?_
  delta l_pick_m
  refine zm_ifP (te_eq (te_orP (te_test (we_lt (re_w (we_var rfl)) (re_w we_int))) (te_test (we_eqS (re_w (we_len (re_w (we_var rfl)))) (re_w we_int)))) rfl) ?_ ?_
  · exact zm_ret (we_eq we_int rfl)
  · refine zm_skip ?_
    refine zm_last ?_
    exact zm_ret (we_eq (we_mod (re_w (we_int1 (re_w (we_ix (we_var rfl) (re_w (we_mod (re_w (we_int1 (re_w (we_var rfl)))) (re_w (we_len (re_w (we_var rfl)))))))))) (re_w (we_var rfl))) rfl)
end K27

namespace K27
open PySem L2 G PM
set_option maxHeartbeats 4000000 in
theorem ok_l_only {P : Program} {w : World} {K : PySem.W.Frag} {mg : Str → Option Value} {base : Heap} (T : Txt K mg) (G_l_pick : FnOk P w K mg base (L2.CX P w) 1 T.a_l_pick T.f_l_pick ["_law_draws_here", "_law_k", "_law_many"] (sp_l_pick ⟨P, w, K⟩ T.A)) : FnOk P w K mg base (L2.CX P w) 2 T.a_l_only T.f_l_only ["_law_draws_here", "_law_most_pairs", "_law_most_free"] (sp_l_only ⟨P, w, K⟩ T.A) := by
  have nd := sc_l_only.nd
  refine T.F_l_only.okX sc_l_only (fun vs H Q E h => ?_) (fun cdv A outer s H vs Q E hr h => ?_)
  · exact sp_l_only_len h
  have hu := hu_of hr
  refine ⟨_, (pss_cons (ps_set (i := 3) nd rfl (Or.inl rfl) (pe_callS G_l_pick (hr.mono (by decide)) (by rfl) T.g_l_pick T.F_l_pick.kp T.d_l_pick (fun σ => passAt (takes_of rfl rfl rfl rfl) σ) (pa_cons (pv 0) (pa_cons pe_int (pa_cons (pe_op op_add (pv 1) pe_int) pa_nil)))))
      (pss_cons (ps_set (i := 4) nd rfl (Or.inl rfl) (pe_listRg rfl (by rfl) T.b_list (prg_1 (by rfl) T.b_range (pv 3))))
      (pss_cons (ps_set (i := 5) nd rfl (Or.inl rfl) (pe_lst pa_nil))
      (pss_cons (ps_for (passes_of rfl) rfl (pi_range1 (by rfl) T.b_range (pa_cons (pv 3) pa_nil)) (pg_name (i := 6) nd rfl (Or.inl rfl))
        (pss_one (ps_expr (bm_K K PySem.F.plainAttrs_list PySem.F.slot_list_append PySem.F.type_list_append mt_append (pv 5) (pa_cons (bm_K K PySem.F.plainAttrs_list PySem.F.slot_list_pop PySem.F.type_list_pop mt_popAt (pv 4) (pa_cons (pe_callS G_l_pick (hr.mono (by decide)) (by rfl) T.g_l_pick T.F_l_pick.kp T.d_l_pick (fun σ => passAt (takes_of rfl rfl rfl rfl) σ) (pa_cons (pv 0) (pa_cons (pe_op op_add pe_int (pv 6)) (pa_cons (pe_callB (len_K K) (by rfl) T.b_len (by decide +kernel) (pa_cons (pv 4) pa_nil)) pa_nil)))) pa_nil)) pa_nil)))))
      (pss_cons (ps_set (i := 7) nd rfl (Or.inl rfl) (pe_listRg rfl (by rfl) T.b_list (prg_1 (by rfl) T.b_range (pv 3))))
      (pss_cons (ps_set (i := 8) nd rfl (Or.inl rfl) (pe_lst pa_nil))
      (pss_cons (ps_for (passes_of rfl) rfl (pi_range1 (by rfl) T.b_range (pa_cons (pv 3) pa_nil)) (pg_name (i := 9) nd rfl (Or.inl rfl))
        (pss_cons (ps_set (i := 10) nd rfl (Or.inl rfl) (pe_ix (ix_lK K) (pv 5) (pv 9) (fun _ _ => rfl)))
      (pss_cons (ps_set (i := 11) nd rfl (Or.inl rfl) pe_dnewK)
      (pss_cons (ps_for (passes_of rfl) rfl (pi_range1 (by rfl) T.b_range (pa_cons (pe_callS G_l_pick (hr.mono (by decide)) (by rfl) T.g_l_pick T.F_l_pick.kp T.d_l_pick (fun σ => passAt (takes_of rfl rfl rfl rfl) σ) (pa_cons (pv 0) (pa_cons pe_int (pa_cons (pe_op op_add (pv 2) pe_int) pa_nil)))) pa_nil)) (pg_name (i := 6) nd rfl (Or.inl rfl))
        (pss_cons (ps_set (i := 12) nd rfl (Or.inl rfl) (pe_op op_add (pe_op op_add pe_int (pv 3)) (pe_op op_mul pe_int (pv 6))))
      (pss_one (ps_if (pt_cmpR op_eq (pe_callS G_l_pick (hr.mono (by decide)) (by rfl) T.g_l_pick T.F_l_pick.kp T.d_l_pick (fun σ => passAt (takes_of rfl rfl rfl rfl) σ) (pa_cons (pv 0) (pa_cons (pv 12) (pa_cons (pv 3) pa_nil)))) (pv 9) (nomark _))
        (pss_cons (ps_set (i := 13) nd rfl (Or.inl rfl) (pe_ix (ix_lK K) (pv 5) (pe_callS G_l_pick (hr.mono (by decide)) (by rfl) T.g_l_pick T.F_l_pick.kp T.d_l_pick (fun σ => passAt (takes_of rfl rfl rfl rfl) σ) (pa_cons (pv 0) (pa_cons (pe_op op_add (pv 12) pe_int) (pa_cons (pe_op op_add (pv 9) pe_int) pa_nil)))) (fun _ _ => rfl)))
      (pss_cons (ps_set (i := 14) nd rfl (Or.inl rfl) (pe_callS G_l_pick (hr.mono (by decide)) (by rfl) T.g_l_pick T.F_l_pick.kp T.d_l_pick (fun σ => passAt (takes_of rfl rfl rfl rfl) σ) (pa_cons (pv 0) (pa_cons (pe_op op_add (pv 12) pe_int) (pa_cons pe_int pa_nil)))))
      (pss_cons (ps_set (i := 15) nd rfl (Or.inl rfl) (pe_op op_add (pe_op op_mul pe_int (pv 13)) (pe_callS G_l_pick (hr.mono (by decide)) (by rfl) T.g_l_pick T.F_l_pick.kp T.d_l_pick (fun σ => passAt (takes_of rfl rfl rfl rfl) σ) (pa_cons (pv 0) (pa_cons (pe_op op_add (pv 12) pe_int) (pa_cons pe_int pa_nil))))))
      (pss_cons (ps_if (pt_cmpR op_eq (pv 13) (pv 10) (nomark _))
        (pss_one (ps_set (i := 15) nd rfl (Or.inl rfl) (pe_op op_add (pe_op op_mul pe_int (pv 10)) (pv 14))))
        (pss_one (ps_set (i := 14) nd rfl (Or.inl rfl) (pe_dsetd (pv 11) (pe_ix (ix_lK K) (pv 7) (pv 13) (fun _ _ => rfl)) (pv 14) ⟨rfl, rfl, rfl, rfl⟩))))
      (pss_cons (ps_set (i := 16) nd rfl (Or.inl rfl) (pe_tup (pa_cons (pe_op op_add (pe_op op_mul pe_int (pv 10)) (pv 14)) (pa_cons (pv 15) pa_nil))))
      (pss_cons (ps_if (pt_cmpR op_eq (pe_callS G_l_pick (hr.mono (by decide)) (by rfl) T.g_l_pick T.F_l_pick.kp T.d_l_pick (fun σ => passAt (takes_of rfl rfl rfl rfl) σ) (pa_cons (pv 0) (pa_cons (pe_op op_add (pv 12) pe_int) (pa_cons pe_int pa_nil)))) pe_int (nomark _))
        (pss_one (ps_set (i := 16) nd rfl (Or.inl rfl) (pe_tup (pa_cons (pv 15) (pa_cons (pe_op op_add (pe_op op_mul pe_int (pv 10)) (pv 14)) pa_nil)))))
        pss_nil)
      (pss_one (ps_expr (bm_K K PySem.F.plainAttrs_list PySem.F.slot_list_insert PySem.F.type_list_insert mt_insert (pv 8) (pa_cons (pe_callS G_l_pick (hr.mono (by decide)) (by rfl) T.g_l_pick T.F_l_pick.kp T.d_l_pick (fun σ => passAt (takes_of rfl rfl rfl rfl) σ) (pa_cons (pv 0) (pa_cons (pe_op op_add (pv 12) pe_int) (pa_cons (pe_op op_add (pe_callB (len_K K) (by rfl) T.b_len (by decide +kernel) (pa_cons (pv 8) pa_nil)) pe_int) pa_nil)))) (pa_cons (pv 16) pa_nil)))))))))))
        pss_nil))))
      (pss_one (ps_for (passes_of rfl) rfl (pi_range1 (by rfl) T.b_range (pa_cons (pv 3) pa_nil)) (pg_name (i := 17) nd rfl (Or.inl rfl))
        (pss_one (ps_if (pt_cmp (pc_din hu (pe_ix (ix_lK K) (pv 7) (pv 17) (fun _ _ => rfl)) (pv 11)))
        (pss_one (ps_asg (pe_ix (ix_lK K) (pv 7) (pv 10) (fun _ _ => rfl)) (pg_sub (pv 7) (pv 17) set_list)))
        pss_nil))))))))
      (pss_one (ps_ret (pe_tup (pa_cons (pv 3) (pa_cons (pv 8) pa_nil)))))))))))), ?_⟩
  try dsimp only [cxOf]
  obtain ⟨draws_here, most_pairs, most_free, nb, h⟩ := h
  refine Zm.body (js := [0, 1, 2, 3, 4, 5, 6, 7, 8, 9, 10, 11, 12, 13, 14, 15, 16, 17]) (m := l_only_m draws_here most_pairs most_free) nb h ?_
  refine zm_to (Γ2 := [(.val (dList (d := dInt)) draws_here), (.val dInt most_pairs), (.val dInt most_free), .no, .no, .no, .no, .no, .no, .no, .no, .no, .no, .no, .no, .no, .no, .no]) rfl ?_
  delta l_only_m
  refine zm_set (i := 3) rfl (by decide) (we_eq (we_call3 hs_l_pick rfl (we_var rfl) we_int (we_add (re_w (we_var rfl)) (re_w we_int))) rfl) fun many_1 => ?_
  refine zm_setO (i := 4) rfl (by decide) (oe_eq (oe_listRg1 (re_w (we_var rfl))) rfl) fun pool_2 => ?_
  refine zm_setO (i := 5) rfl (by decide) (oe_eq (oe_lst0 (d := dInt)) rfl) fun order_3 => ?_
  refine zm_for [6] (fun s4 => [(.val (dList (d := dInt)) draws_here), (.val dInt most_pairs), (.val dInt most_free), (.val dInt many_1), (.own (dList (d := dInt)) (oList (d := dInt)) none s4.1), (.own (dList (d := dInt)) (oList (d := dInt)) none s4.2), .no, .no, .no, .no, .no, .no, .no, .no, .no, .no, .no, .no]) (pool_2, order_3) (wlen 18 (by exact rfl) (by exact rfl) (by decide)) rfl (fun _ => (wlen 18 (by exact rfl) (by exact rfl) (by decide))) (ie_eq (ie_range (re_w (we_var rfl))) rfl) (fun s4 x5 => (a_name rfl ⟨(wlen 18 (by exact rfl) (by exact rfl) (by decide)), ?_⟩)) fun s7 => ?_
  · refine zm_last ?_
    refine zm_appendPop (i := 5) (j := 4) rfl rfl rfl (by decide) (by decide) (re_eq (re_w (we_call3 hs_l_pick rfl (we_var rfl) (we_add (re_w we_int) (re_w (we_var rfl))) (we_len (re_varO rfl)))) rfl) fun p6 => ?_
    exact zm_nextL rfl
  · refine zm_setO (i := 7) rfl (by decide) (oe_eq (oe_listRg1 (re_w (we_var rfl))) rfl) fun label_8 => ?_
    refine zm_setO (i := 8) rfl (by decide) (oe_eq (oe_lst0 (d := (dPair (d1 := dInt) (d2 := dInt)))) rfl) fun free_9 => ?_
    refine zm_for [6, 9, 10, 11, 12, 13, 14, 15, 16, 17] (fun s10 => [(.val (dList (d := dInt)) draws_here), (.val dInt most_pairs), (.val dInt most_free), (.val dInt many_1), (.own (dList (d := dInt)) (oList (d := dInt)) none s7.1), (.own (dList (d := dInt)) (oList (d := dInt)) none s7.2), .no, (.own (dList (d := dInt)) (oList (d := dInt)) none s10.1), (.own (dList (d := (dPair (d1 := dInt) (d2 := dInt)))) (oList (d := (dPair (d1 := dInt) (d2 := dInt)))) none s10.2), .no, .no, .no, .no, .no, .no, .no, .no, .no]) (label_8, free_9) (wlen 18 (by exact rfl) (by exact rfl) (by decide)) rfl (fun _ => (wlen 18 (by exact rfl) (by exact rfl) (by decide))) (ie_eq (ie_range (re_w (we_var rfl))) rfl) (fun s10 x11 => (a_name rfl ⟨(wlen 18 (by exact rfl) (by exact rfl) (by decide)), ?_⟩)) fun s43 => ?_
    · refine zm_set (i := 10) rfl (by decide) (we_eq (we_ixO rfl (re_w (we_var rfl))) rfl) fun here_12 => ?_
      refine zm_setO (i := 11) rfl (by decide) (oe_eq (oe_dict0 (d := dInt)) rfl) fun fixed_13 => ?_
      refine zm_for [6, 12, 13, 14, 15, 16] (fun s14 => [(.val (dList (d := dInt)) draws_here), (.val dInt most_pairs), (.val dInt most_free), (.val dInt many_1), (.own (dList (d := dInt)) (oList (d := dInt)) none s7.1), (.own (dList (d := dInt)) (oList (d := dInt)) none s7.2), .no, (.own (dList (d := dInt)) (oList (d := dInt)) none s10.1), (.own (dList (d := (dPair (d1 := dInt) (d2 := dInt)))) (oList (d := (dPair (d1 := dInt) (d2 := dInt)))) none s14.1), (.val dInt x11), (.val dInt here_12), (.own (dDI (d := dInt)) (oDI (d := dInt)) none s14.2), .no, .no, .no, .no, .no, .no]) (s10.2, fixed_13) (wlen 18 (by exact rfl) (by exact rfl) (by decide)) rfl (fun _ => (wlen 18 (by exact rfl) (by exact rfl) (by decide))) (ie_eq (ie_range (re_w (we_call3 hs_l_pick rfl (we_var rfl) we_int (we_add (re_w (we_var rfl)) (re_w we_int))))) rfl) (fun s14 x16 => (a_name rfl ⟨(wlen 18 (by exact rfl) (by exact rfl) (by decide)), ?_⟩)) fun s34 => ?_
      · refine zm_set (i := 12) rfl (by decide) (we_eq (we_add (re_w (we_add (re_w we_int) (re_w (we_var rfl)))) (re_w (we_mulCl (re_w we_int) (re_w (we_var rfl))))) rfl) fun at__17 => ?_
        refine zm_last ?_
        refine zm_if (te_eq (te_test (we_eqS (re_w (we_call3 hs_l_pick rfl (we_var rfl) (we_var rfl) (we_var rfl))) (re_w (we_var rfl)))) rfl) ?_ ?_
        · refine zm_assoc ?_
          refine zm_set (i := 13) rfl (by decide) (we_eq (we_ixO rfl (re_w (we_call3 hs_l_pick rfl (we_var rfl) (we_add (re_w (we_var rfl)) (re_w we_int)) (we_add (re_w (we_var rfl)) (re_w we_int))))) rfl) fun there_20 => ?_
          refine zm_assoc ?_
          refine zm_set (i := 14) rfl (by decide) (we_eq (we_call3 hs_l_pick rfl (we_var rfl) (we_add (re_w (we_var rfl)) (re_w we_int)) we_int) rfl) fun which_21 => ?_
          refine zm_assoc ?_
          refine zm_set (i := 15) rfl (by decide) (we_eq (we_add (re_w (we_mulCl (re_w we_int) (re_w (we_var rfl)))) (re_w (we_call3 hs_l_pick rfl (we_var rfl) (we_add (re_w (we_var rfl)) (re_w we_int)) we_int))) rfl) fun far_23 => ?_
          refine zm_assoc ?_
          refine zm_join [] (fun s26 => [(.val (dList (d := dInt)) draws_here), (.val dInt most_pairs), (.val dInt most_free), (.val dInt many_1), (.own (dList (d := dInt)) (oList (d := dInt)) none s7.1), (.own (dList (d := dInt)) (oList (d := dInt)) none s7.2), (.val dInt x16), (.own (dList (d := dInt)) (oList (d := dInt)) none s10.1), (.own (dList (d := (dPair (d1 := dInt) (d2 := dInt)))) (oList (d := (dPair (d1 := dInt) (d2 := dInt)))) none s14.1), (.val dInt x11), (.val dInt here_12), (.own (dDI (d := dInt)) (oDI (d := dInt)) none s26.1), (.val dInt at__17), (.val dInt there_20), (.val dInt s26.2.1), (.val dInt s26.2.2), .no, .no]) (fun _ => (wlen 18 (by exact rfl) (by exact rfl) (by decide))) ?_ fun s26 => ?_
          · refine zm_last (zm_ifP (te_eq (te_test (we_eqS (re_w (we_var rfl)) (re_w (we_var rfl)))) rfl) ?_ ?_)
            · refine zm_set (i := 15) rfl (by decide) (we_eq (we_add (re_w (we_mulCl (re_w we_int) (re_w (we_var rfl)))) (re_w (we_var rfl))) rfl) fun far_24 => ?_
              exact zm_nextJ rfl
            · refine zm_setd (i := 11) (j := 14) rfl rfl rfl (by decide) (by decide) (re_eq (re_w (we_ixO rfl (re_w (we_var rfl)))) rfl) (we_eq (we_var rfl) rfl) fun p25 => ?_
              exact zm_nextJ rfl
          · refine zm_assoc ?_
            refine zm_set (i := 16) rfl (by decide) (we_eq (we_tup2 (we_add (re_w (we_mulCl (re_w we_int) (re_w (we_var rfl)))) (re_w (we_var rfl))) (we_var rfl)) rfl) fun tie_27 => ?_
            refine zm_assoc ?_
            refine zm_join [] (fun s30 => [(.val (dList (d := dInt)) draws_here), (.val dInt most_pairs), (.val dInt most_free), (.val dInt many_1), (.own (dList (d := dInt)) (oList (d := dInt)) none s7.1), (.own (dList (d := dInt)) (oList (d := dInt)) none s7.2), (.val dInt x16), (.own (dList (d := dInt)) (oList (d := dInt)) none s10.1), (.own (dList (d := (dPair (d1 := dInt) (d2 := dInt)))) (oList (d := (dPair (d1 := dInt) (d2 := dInt)))) none s14.1), (.val dInt x11), (.val dInt here_12), (.own (dDI (d := dInt)) (oDI (d := dInt)) none s26.1), (.val dInt at__17), (.val dInt there_20), (.val dInt s26.2.1), (.val dInt s26.2.2), (.val (dPair (d1 := dInt) (d2 := dInt)) s30), .no]) (fun _ => (wlen 18 (by exact rfl) (by exact rfl) (by decide))) ?_ fun s30 => ?_
            · refine zm_last (zm_if (te_eq (te_test (we_eqS (re_w (we_call3 hs_l_pick rfl (we_var rfl) (we_add (re_w (we_var rfl)) (re_w we_int)) we_int)) (re_w we_int))) rfl) ?_ ?_)
              · refine zm_set (i := 16) rfl (by decide) (we_eq (we_tup2 (we_var rfl) (we_add (re_w (we_mulCl (re_w we_int) (re_w (we_var rfl)))) (re_w (we_var rfl)))) rfl) fun tie_29 => ?_
                exact zm_nextJ rfl
              · refine zm_skip ?_
                exact zm_nextJ rfl
            · refine zm_insert (i := 8) rfl (by decide) (re_eq (re_w (we_call3 hs_l_pick rfl (we_var rfl) (we_add (re_w (we_var rfl)) (re_w we_int)) (we_add (re_w (we_len (re_varO rfl))) (re_w we_int)))) rfl) (we_eq (we_var rfl) rfl) fun free_31 => ?_
              exact zm_nextL rfl
        · refine zm_skip ?_
          exact zm_nextL rfl
      · refine zm_last ?_
        refine zm_for [17] (fun s35 => [(.val (dList (d := dInt)) draws_here), (.val dInt most_pairs), (.val dInt most_free), (.val dInt many_1), (.own (dList (d := dInt)) (oList (d := dInt)) none s7.1), (.own (dList (d := dInt)) (oList (d := dInt)) none s7.2), .no, (.own (dList (d := dInt)) (oList (d := dInt)) none s35), (.own (dList (d := (dPair (d1 := dInt) (d2 := dInt)))) (oList (d := (dPair (d1 := dInt) (d2 := dInt)))) none s34.1), (.val dInt x11), (.val dInt here_12), (.own (dDI (d := dInt)) (oDI (d := dInt)) none s34.2), .no, .no, .no, .no, .no, .no]) s10.1 (wlen 18 (by exact rfl) (by exact rfl) (by decide)) rfl (fun _ => (wlen 18 (by exact rfl) (by exact rfl) (by decide))) (ie_eq (ie_range (re_w (we_var rfl))) rfl) (fun s35 x36 => (a_name rfl ⟨(wlen 18 (by exact rfl) (by exact rfl) (by decide)), ?_⟩)) fun s40 => ?_
        · refine zm_last ?_
          refine zm_if (te_eq (te_B (we_inDI (re_w (we_ixO rfl (re_w (we_var rfl)))) (re_varO rfl))) rfl) ?_ ?_
          · refine zm_setIx (i := 7) rfl (by decide) (we_eq (we_ixO rfl (re_w (we_var rfl))) rfl) (re_eq (re_w (we_var rfl)) rfl) fun label_38 => ?_
            exact zm_nextL rfl
          · refine zm_skip ?_
            exact zm_nextL rfl
        · exact zm_nextL rfl
    · refine zm_last ?_
      refine zm_frz 8 rfl (by decide) ?_
      exact zm_ret (we_eq (we_tup2 (we_var rfl) (we_var rfl)) rfl)
end K27

namespace K27
open PySem L2 G PM
set_option maxHeartbeats 4000000 in
theorem ok_l_paired {P : Program} {w : World} {K : PySem.W.Frag} {mg : Str → Option Value} {base : Heap} (T : Txt K mg) (G_l_pick : FnOk P w K mg base (L2.CX P w) 1 T.a_l_pick T.f_l_pick ["_law_draws_here", "_law_k", "_law_many"] (sp_l_pick ⟨P, w, K⟩ T.A)) : FnOk P w K mg base (L2.CX P w) 2 T.a_l_paired T.f_l_paired ["_law_draws_here", "_law_most_pairs", "_law_most_free"] (sp_l_paired ⟨P, w, K⟩ T.A) := by
  have nd := sc_l_paired.nd
  refine T.F_l_paired.okX sc_l_paired (fun vs H Q E h => ?_) (fun cdv A outer s H vs Q E hr h => ?_)
  · exact sp_l_paired_len h
  have hu := hu_of hr
  refine ⟨_, (pss_cons (ps_set (i := 3) nd rfl (Or.inl rfl) (pe_callS G_l_pick (hr.mono (by decide)) (by rfl) T.g_l_pick T.F_l_pick.kp T.d_l_pick (fun σ => passAt (takes_of rfl rfl rfl rfl) σ) (pa_cons (pv 0) (pa_cons pe_int (pa_cons (pe_op op_add (pv 1) pe_int) pa_nil)))))
      (pss_cons (ps_set (i := 4) nd rfl (Or.inl rfl) (pe_lst pa_nil))
      (pss_cons (ps_for (passes_of rfl) rfl (pi_range1 (by rfl) T.b_range (pa_cons (pe_callS G_l_pick (hr.mono (by decide)) (by rfl) T.g_l_pick T.F_l_pick.kp T.d_l_pick (fun σ => passAt (takes_of rfl rfl rfl rfl) σ) (pa_cons (pv 0) (pa_cons pe_int (pa_cons (pe_op op_add (pv 2) pe_int) pa_nil)))) pa_nil)) (pg_name (i := 5) nd rfl (Or.inl rfl))
        (pss_one (ps_if (pt_cmpR op_gt (pv 3) pe_int (nomark _))
        (pss_one (ps_expr (bm_K K PySem.F.plainAttrs_list PySem.F.slot_list_append PySem.F.type_list_append mt_append (pv 4) (pa_cons (pe_tup (pa_cons (pe_callS G_l_pick (hr.mono (by decide)) (by rfl) T.g_l_pick T.F_l_pick.kp T.d_l_pick (fun σ => passAt (takes_of rfl rfl rfl rfl) σ) (pa_cons (pv 0) (pa_cons (pe_op op_add pe_int (pe_op op_mul pe_int (pv 5))) (pa_cons (pe_op op_mul pe_int (pv 3)) pa_nil)))) (pa_cons (pe_callS G_l_pick (hr.mono (by decide)) (by rfl) T.g_l_pick T.F_l_pick.kp T.d_l_pick (fun σ => passAt (takes_of rfl rfl rfl rfl) σ) (pa_cons (pv 0) (pa_cons (pe_op op_add pe_int (pe_op op_mul pe_int (pv 5))) (pa_cons (pe_op op_mul pe_int (pv 3)) pa_nil)))) pa_nil))) pa_nil))))
        pss_nil)))
      (pss_one (ps_ret (pe_tup (pa_cons (pv 3) (pa_cons (pv 4) pa_nil)))))))), ?_⟩
  try dsimp only [cxOf]
  obtain ⟨draws_here, most_pairs, most_free, nb, h⟩ := h
  refine Zm.body (js := [0, 1, 2, 3, 4, 5]) (m := l_paired_m draws_here most_pairs most_free) nb h ?_
  refine zm_to (Γ2 := [(.val (dList (d := dInt)) draws_here), (.val dInt most_pairs), (.val dInt most_free), .no, .no, .no]) rfl ?_
  delta l_paired_m
  refine zm_set (i := 3) rfl (by decide) (we_eq (we_call3 hs_l_pick rfl (we_var rfl) we_int (we_add (re_w (we_var rfl)) (re_w we_int))) rfl) fun many_1 => ?_
  refine zm_setO (i := 4) rfl (by decide) (oe_eq (oe_lst0 (d := (dPair (d1 := dInt) (d2 := dInt)))) rfl) fun free_2 => ?_
  refine zm_for [5] (fun s3 => [(.val (dList (d := dInt)) draws_here), (.val dInt most_pairs), (.val dInt most_free), (.val dInt many_1), (.own (dList (d := (dPair (d1 := dInt) (d2 := dInt)))) (oList (d := (dPair (d1 := dInt) (d2 := dInt)))) none s3), .no]) free_2 (wlen 6 (by exact rfl) (by exact rfl) (by decide)) rfl (fun _ => (wlen 6 (by exact rfl) (by exact rfl) (by decide))) (ie_eq (ie_range (re_w (we_call3 hs_l_pick rfl (we_var rfl) we_int (we_add (re_w (we_var rfl)) (re_w we_int))))) rfl) (fun s3 x5 => (a_name rfl ⟨(wlen 6 (by exact rfl) (by exact rfl) (by decide)), ?_⟩)) fun s9 => ?_
  · refine zm_last ?_
    refine zm_ifP (te_eq (te_test (we_gt (re_w (we_var rfl)) (re_w we_int))) rfl) ?_ ?_
    · refine zm_append (i := 4) rfl (by decide) (we_eq (we_tup2 (we_call3 hs_l_pick rfl (we_var rfl) (we_add (re_w we_int) (re_w (we_mulCl (re_w we_int) (re_w (we_var rfl))))) (we_mulCl (re_w we_int) (re_w (we_var rfl)))) (we_call3 hs_l_pick rfl (we_var rfl) (we_add (re_w we_int) (re_w (we_mulCl (re_w we_int) (re_w (we_var rfl))))) (we_mulCl (re_w we_int) (re_w (we_var rfl))))) rfl) fun free_8 => ?_
      exact zm_nextL rfl
    · refine zm_skip ?_
      exact zm_nextL rfl
  · refine zm_last ?_
    refine zm_frz 4 rfl (by decide) ?_
    exact zm_ret (we_eq (we_tup2 (we_var rfl) (we_var rfl)) rfl)
end K27

namespace K27
open PySem L2 G PM
set_option maxHeartbeats 4000000 in
theorem ok_l_some {P : Program} {w : World} {K : PySem.W.Frag} {mg : Str → Option Value} {base : Heap} (T : Txt K mg) (G_l_pick : FnOk P w K mg base (L2.CX P w) 1 T.a_l_pick T.f_l_pick ["_law_draws_here", "_law_k", "_law_many"] (sp_l_pick ⟨P, w, K⟩ T.A)) : FnOk P w K mg base (L2.CX P w) 2 T.a_l_some T.f_l_some ["_law_draws_here", "_law_at", "_law_items", "_law_share"] (sp_l_some ⟨P, w, K⟩ T.A) := by
  have nd := sc_l_some.nd
  refine T.F_l_some.okX sc_l_some (fun vs H Q E h => ?_) (fun cdv A outer s H vs Q E hr h => ?_)
  · exact sp_l_some_len h
  have hu := hu_of hr
  refine ⟨_, (pss_cons (ps_set (i := 4) nd rfl (Or.inl rfl) (pe_callTy (list_K K) (by rfl) T.b_list (by decide +kernel) (pa_cons (pv 2) pa_nil)))
      (pss_cons (ps_set (i := 5) nd rfl (Or.inl rfl) (pe_lst pa_nil))
      (pss_cons (ps_for (passes_of rfl) rfl (pi_range1 (by rfl) T.b_range (pa_cons (pe_callB (len_K K) (by rfl) T.b_len (by decide +kernel) (pa_cons (pv 2) pa_nil)) pa_nil)) (pg_name (i := 6) nd rfl (Or.inl rfl))
        (pss_cons (ps_set (i := 7) nd rfl (Or.inl rfl) (bm_K K PySem.F.plainAttrs_list PySem.F.slot_list_pop PySem.F.type_list_pop mt_popAt (pv 4) (pa_cons (pe_callS G_l_pick (hr.mono (by decide)) (by rfl) T.g_l_pick T.F_l_pick.kp T.d_l_pick (fun σ => passAt (takes_of rfl rfl rfl rfl) σ) (pa_cons (pv 0) (pa_cons (pe_op op_add (pv 1) (pe_op op_mul pe_int (pv 6))) (pa_cons (pe_callB (len_K K) (by rfl) T.b_len (by decide +kernel) (pa_cons (pv 4) pa_nil)) pa_nil)))) pa_nil)))
      (pss_one (ps_if (pt_cmpR op_lt (pe_callS G_l_pick (hr.mono (by decide)) (by rfl) T.g_l_pick T.F_l_pick.kp T.d_l_pick (fun σ => passAt (takes_of rfl rfl rfl rfl) σ) (pa_cons (pv 0) (pa_cons (pe_op op_add (pe_op op_add (pv 1) (pe_op op_mul pe_int (pv 6))) pe_int) (pa_cons pe_int pa_nil)))) (pv 3) (nomark _))
        (pss_one (ps_expr (bm_K K PySem.F.plainAttrs_list PySem.F.slot_list_append PySem.F.type_list_append mt_append (pv 5) (pa_cons (pv 7) pa_nil))))
        pss_nil))))
      (pss_one (ps_ret (pv 5)))))), ?_⟩
  try dsimp only [cxOf]
  obtain ⟨draws_here, at_, items, share, nb, h⟩ := h
  refine Zm.body (js := [0, 1, 2, 3, 4, 5, 6, 7]) (m := l_some_m draws_here at_ items share) nb h ?_
  refine zm_to (Γ2 := [(.val (dList (d := dInt)) draws_here), (.val dInt at_), (.val (dList (d := dInt)) items), (.val dInt share), .no, .no, .no, .no]) rfl ?_
  delta l_some_m
  refine zm_setO (i := 4) rfl (by decide) (oe_eq (oe_listOf (we_var rfl)) rfl) fun pool_1 => ?_
  refine zm_setO (i := 5) rfl (by decide) (oe_eq (oe_lst0 (d := dInt)) rfl) fun some_here_2 => ?_
  refine zm_for [6, 7] (fun s3 => [(.val (dList (d := dInt)) draws_here), (.val dInt at_), (.val (dList (d := dInt)) items), (.val dInt share), (.own (dList (d := dInt)) (oList (d := dInt)) none s3.1), (.own (dList (d := dInt)) (oList (d := dInt)) none s3.2), .no, .no]) (pool_1, some_here_2) (wlen 8 (by exact rfl) (by exact rfl) (by decide)) rfl (fun _ => (wlen 8 (by exact rfl) (by exact rfl) (by decide))) (ie_eq (ie_range (re_w (we_len (re_w (we_var rfl))))) rfl) (fun s3 x4 => (a_name rfl ⟨(wlen 8 (by exact rfl) (by exact rfl) (by decide)), ?_⟩)) fun s9 => ?_
  · refine zm_popAt (i := 4) (j := 7) rfl rfl rfl (by decide) (by decide) (re_eq (re_w (we_call3 hs_l_pick rfl (we_var rfl) (we_add (re_w (we_var rfl)) (re_w (we_mulCl (re_w we_int) (re_w (we_var rfl))))) (we_len (re_varO rfl)))) rfl) fun p5 => ?_
    refine zm_last ?_
    refine zm_if (te_eq (te_test (we_lt (re_w (we_call3 hs_l_pick rfl (we_var rfl) (we_add (re_w (we_add (re_w (we_var rfl)) (re_w (we_mulCl (re_w we_int) (re_w (we_var rfl)))))) (re_w we_int)) we_int)) (re_w (we_var rfl)))) rfl) ?_ ?_
    · refine zm_append (i := 5) rfl (by decide) (we_eq (we_var rfl) rfl) fun some_here_7 => ?_
      exact zm_nextL rfl
    · refine zm_skip ?_
      exact zm_nextL rfl
  · refine zm_last ?_
    exact zm_retV rfl
end K27

namespace K27
open PySem L2 G PM
set_option maxHeartbeats 4000000 in
theorem ok_l_bad {P : Program} {w : World} {K : PySem.W.Frag} {mg : Str → Option Value} {base : Heap} (T : Txt K mg) (G_l_pick : FnOk P w K mg base (L2.CX P w) 1 T.a_l_pick T.f_l_pick ["_law_draws_here", "_law_k", "_law_many"] (sp_l_pick ⟨P, w, K⟩ T.A)) : FnOk P w K mg base (L2.CX P w) 2 T.a_l_bad T.f_l_bad ["_law_draws_here", "_law_at", "_law_taken", "_law_many"] (sp_l_bad ⟨P, w, K⟩ T.A) := by
  have nd := sc_l_bad.nd
  refine T.F_l_bad.okX sc_l_bad (fun vs H Q E h => ?_) (fun cdv A outer s H vs Q E hr h => ?_)
  · exact sp_l_bad_len h
  have hu := hu_of hr
  refine ⟨_, (pss_cons (ps_set (i := 4) nd rfl (Or.inl rfl) (pe_callTy (list_K K) (by rfl) T.b_list (by decide +kernel) (pa_cons (pv 2) pa_nil)))
      (pss_cons (ps_for (passes_of rfl) rfl (pi_range1 (by rfl) T.b_range (pa_cons (pe_op op_add pe_int (pe_callS G_l_pick (hr.mono (by decide)) (by rfl) T.g_l_pick T.F_l_pick.kp T.d_l_pick (fun σ => passAt (takes_of rfl rfl rfl rfl) σ) (pa_cons (pv 0) (pa_cons (pv 1) (pa_cons pe_int pa_nil))))) pa_nil)) (pg_name (i := 5) nd rfl (Or.inl rfl))
        (pss_cons (ps_set (i := 6) nd rfl (Or.inl rfl) (pe_op op_sub (pe_callS G_l_pick (hr.mono (by decide)) (by rfl) T.g_l_pick T.F_l_pick.kp T.d_l_pick (fun σ => passAt (takes_of rfl rfl rfl rfl) σ) (pa_cons (pv 0) (pa_cons (pe_op op_add (pe_op op_add (pv 1) pe_int) (pe_op op_mul pe_int (pv 5))) (pa_cons pe_int pa_nil)))) pe_int))
      (pss_cons (ps_if (pt_cmpR op_eq (pe_callS G_l_pick (hr.mono (by decide)) (by rfl) T.g_l_pick T.F_l_pick.kp T.d_l_pick (fun σ => passAt (takes_of rfl rfl rfl rfl) σ) (pa_cons (pv 0) (pa_cons (pe_op op_add (pe_op op_add (pv 1) pe_int) (pe_op op_mul pe_int (pv 5))) (pa_cons pe_int pa_nil)))) pe_int (nomark _))
        (pss_one (ps_set (i := 6) nd rfl (Or.inl rfl) (pe_op op_add (pe_op op_pow pe_int pe_int) (pv 6))))
        pss_nil)
      (pss_one (ps_if (PW.pt (pw_and (pt_cmpR (op_niK K) (pv 6) (pv 4) (by with_unfolding_all rfl)) (pw_and1 (PW.pt (pw_or (pt_cmpR op_lt (pv 6) pe_int (nomark _)) (pw_or1 (pt_cmpR op_ge (pv 6) (pv 3) (nomark _))))))))
        (pss_one (ps_expr (bm_K K PySem.F.plainAttrs_list PySem.F.slot_list_insert PySem.F.type_list_insert mt_insert (pv 4) (pa_cons (pe_callS G_l_pick (hr.mono (by decide)) (by rfl) T.g_l_pick T.F_l_pick.kp T.d_l_pick (fun σ => passAt (takes_of rfl rfl rfl rfl) σ) (pa_cons (pv 0) (pa_cons (pe_op op_add (pe_op op_add (pv 1) pe_int) (pe_op op_mul pe_int (pv 5))) (pa_cons (pe_op op_add (pe_callB (len_K K) (by rfl) T.b_len (by decide +kernel) (pa_cons (pv 4) pa_nil)) pe_int) pa_nil)))) (pa_cons (pv 6) pa_nil)))))
        pss_nil)))))
      (pss_one (ps_ret (pv 4))))), ?_⟩
  try dsimp only [cxOf]
  obtain ⟨draws_here, at_, taken, many, nb, h⟩ := h
  refine Zm.body (js := [0, 1, 2, 3, 4, 5, 6]) (m := l_bad_m draws_here at_ taken many) nb h ?_
  refine zm_to (Γ2 := [(.val (dList (d := dInt)) draws_here), (.val dInt at_), (.val (dList (d := dInt)) taken), (.val dInt many), .no, .no, .no]) rfl ?_
  delta l_bad_m
  refine zm_setO (i := 4) rfl (by decide) (oe_eq (oe_listOf (we_var rfl)) rfl) fun bad_here_1 => ?_
  refine zm_for [5, 6] (fun s2 => [(.val (dList (d := dInt)) draws_here), (.val dInt at_), (.val (dList (d := dInt)) taken), (.val dInt many), (.own (dList (d := dInt)) (oList (d := dInt)) none s2), .no, .no]) bad_here_1 (wlen 7 (by exact rfl) (by exact rfl) (by decide)) rfl (fun _ => (wlen 7 (by exact rfl) (by exact rfl) (by decide))) (ie_eq (ie_range (re_w (we_add (re_w we_int) (re_w (we_call3 hs_l_pick rfl (we_var rfl) (we_var rfl) we_int))))) rfl) (fun s2 x5 => (a_name rfl ⟨(wlen 7 (by exact rfl) (by exact rfl) (by decide)), ?_⟩)) fun s13 => ?_
  · refine zm_set (i := 6) rfl (by decide) (we_eq (we_sub (re_w (we_call3 hs_l_pick rfl (we_var rfl) (we_add (re_w (we_add (re_w (we_var rfl)) (re_w we_int))) (re_w (we_mulCl (re_w we_int) (re_w (we_var rfl))))) we_int)) (re_w we_int)) rfl) fun number_7 => ?_
    refine zm_join [] (fun s10 => [(.val (dList (d := dInt)) draws_here), (.val dInt at_), (.val (dList (d := dInt)) taken), (.val dInt many), (.own (dList (d := dInt)) (oList (d := dInt)) none s2), (.val dInt x5), (.val dInt s10)]) (fun _ => (wlen 7 (by exact rfl) (by exact rfl) (by decide))) ?_ fun s10 => ?_
    · refine zm_last (zm_if (te_eq (te_test (we_eqS (re_w (we_call3 hs_l_pick rfl (we_var rfl) (we_add (re_w (we_add (re_w (we_var rfl)) (re_w we_int))) (re_w (we_mulCl (re_w we_int) (re_w (we_var rfl))))) we_int)) (re_w we_int))) rfl) ?_ ?_)
      · refine zm_set (i := 6) rfl (by decide) (we_eq (we_add (re_w (we_powC (c := 1000000000000000000000000000000) (re_w we_int) (re_w we_int) (by decide))) (re_w (we_var rfl))) rfl) fun number_9 => ?_
        exact zm_nextJ rfl
      · refine zm_skip ?_
        exact zm_nextJ rfl
    · refine zm_last ?_
      refine zm_ifP (te_eq (te_andP (te_test (we_notin (re_w (we_var rfl)) (re_varO rfl))) (te_orP (te_test (we_lt (re_w (we_var rfl)) (re_w we_int))) (te_test (we_ge (re_w (we_var rfl)) (re_w (we_var rfl)))))) rfl) ?_ ?_
      · refine zm_insert (i := 4) rfl (by decide) (re_eq (re_w (we_call3 hs_l_pick rfl (we_var rfl) (we_add (re_w (we_add (re_w (we_var rfl)) (re_w we_int))) (re_w (we_mulCl (re_w we_int) (re_w (we_var rfl))))) (we_add (re_w (we_len (re_varO rfl))) (re_w we_int)))) rfl) (we_eq (we_var rfl) rfl) fun bad_here_11 => ?_
        exact zm_nextL rfl
      · refine zm_skip ?_
        exact zm_nextL rfl
  · refine zm_last ?_
    exact zm_retV rfl
end K27

namespace K27
open PySem L2 G PM
set_option maxHeartbeats 4000000 in
theorem ok_m_PairedWebX_initX {P : Program} {w : World} {K : PySem.W.Frag} {mg : Str → Option Value} {base : Heap} (T : Txt K mg) (G_x_TooLarge : FnOk P w K mg base (L2.CX P w) 1 T.i_TooLarge T.fx_TooLarge ["self", "limit"] (spX1 (T.A.tx .TooLarge) "limit")) (G_x_UnknownPoint : FnOk P w K mg base (L2.CX P w) 1 T.i_UnknownPoint T.fx_UnknownPoint ["self", "point"] (spX1 (T.A.tx .UnknownPoint) "point")) : FnOk P w K mg base (L2.CX P w) 3 T.a_m_PairedWebX_initX T.f_m_PairedWebX_initX ["self", "pairs", "free"] (sp_m_PairedWebX_initX ⟨P, w, K⟩ T.A) := by
  have nd := sc_m_PairedWebX_initX.nd
  refine T.F_m_PairedWebX_initX.okX sc_m_PairedWebX_initX (fun vs H Q E h => ?_) (fun cdv A outer s H vs Q E hr h => ?_)
  · exact sp_m_PairedWebX_initX_len h
  have hu := hu_of hr
  refine ⟨_, (pss_cons (ps_if (pt_cmpR op_gt (pv 1) (con_K K (pv 0) rfl) (nomark _))
        (pss_one (ps_raise rfl (takes_of rfl rfl rfl rfl) (pmk_oex T.x_TooLarge.T T.x_TooLarge.init T.x_TooLarge.fn G_x_TooLarge (hr.mono (by decide)) T.dx_TooLarge .nil passF (by rfl) T.g_TooLarge (pa_cons (con_K K (pv 0) rfl) pa_nil))))
        pss_nil)
      (pss_cons (ps_if (pt_cmpR op_gt (pe_callB (len_K K) (by rfl) T.b_len (by decide +kernel) (pa_cons (pv 2) pa_nil)) (con_K K (pv 0) rfl) (nomark _))
        (pss_one (ps_raise rfl (takes_of rfl rfl rfl rfl) (pmk_oex T.x_TooLarge.T T.x_TooLarge.init T.x_TooLarge.fn G_x_TooLarge (hr.mono (by decide)) T.dx_TooLarge .nil passF (by rfl) T.g_TooLarge (pa_cons (con_K K (pv 0) rfl) pa_nil))))
        pss_nil)
      (pss_cons (ps_for (passes_of rfl) rfl (pi_lK K (pv 2)) (pg_name (i := 3) nd rfl (Or.inl rfl))
        (pss_one (ps_for (passes_of rfl) rfl (pi_tK K (pv 3)) (pg_name (i := 4) nd rfl (Or.inl rfl))
        (pss_one (ps_if (PW.pt (pw_or (pt_cmpR op_lt (pv 4) pe_int (nomark _)) (pw_or1 (pt_cmpR op_ge (pv 4) (pe_op op_mul pe_int (pv 1)) (nomark _)))))
        (pss_one (ps_raise rfl (takes_of rfl rfl rfl rfl) (pmk_oex T.x_UnknownPoint.T T.x_UnknownPoint.init T.x_UnknownPoint.fn G_x_UnknownPoint (hr.mono (by decide)) T.dx_UnknownPoint .nil passF (by rfl) T.g_UnknownPoint (pa_cons (pv 4) pa_nil))))
        pss_nil)))))
      (pss_cons (ps_fld (pv 0) (pv 1) rfl)
      (pss_one (ps_fld (pv 0) (pe_callTy (tuple_K K) (by rfl) T.b_tuple (by decide +kernel) (pa_cons (pe_lc (own := [("one", 5), ("other", 6)]) (by rfl) nd (pi_lB K (pv 2)) (blkOk_by (own := [("one", 5), ("other", 6)]) (N := N_m_PairedWebX_initX) (sc := defScope s_m_PairedWebX_initX) (by decide +kernel)) (fun _ _ _ _ _ => (pg_tupK (n := 2) K (by rfl) (pgs_cons (pg_name (i := 5) nd rfl (Or.inl rfl)) (pgs_cons (pg_name (i := 6) nd rfl (Or.inl rfl)) pgs_nil)))) (fun _ _ _ _ _ => pts_nil) (fun _ _ _ _ _ => (pe_tup (pa_cons (pv 5) (pa_cons (pv 6) pa_nil))))) pa_nil)) rfl)))))), ?_⟩
  try dsimp only [cxOf]
  obtain ⟨pairs, free, nb, h⟩ := h
  refine Zm.bodyI (js := [0, 1, 2, 3, 4, 5, 6]) (m := m_PairedWebX_initX_m pairs free) nb h fun pp => ?_
  generalize (⟨()⟩ : Ob0) = x0
  refine zm_to (Γ2 := [(.own (dOb0 (T.A.ob .PairedWeb)) (oOb0 (T.A.ob .PairedWeb)) (some (.ref pp)) x0), (.val dInt pairs), (.val (dList (d := (dPair (d1 := dInt) (d2 := dInt)))) free), .no, .no, .no, .no]) rfl ?_
  delta m_PairedWebX_initX_m
  refine zm_ifP (te_eq (te_test (we_gt (re_w (we_var rfl)) (re_w (we_con isI0 T.c_PairedWeb T.k_PairedWeb_MOST_PAIRS (by decide) (re_varO rfl))))) rfl) ?_ ?_
  · exact zm_raise1 rfl rfl (re_eq (re_w (we_con isI0 T.c_PairedWeb T.k_PairedWeb_MOST_PAIRS (by decide) (re_varO rfl))) rfl)
  · refine zm_skip ?_
    refine zm_ifP (te_eq (te_test (we_gt (re_w (we_len (re_w (we_var rfl)))) (re_w (we_con isI0 T.c_PairedWeb T.k_PairedWeb_MOST_FREE (by decide) (re_varO rfl))))) rfl) ?_ ?_
    · exact zm_raise1 rfl rfl (re_eq (re_w (we_con isI0 T.c_PairedWeb T.k_PairedWeb_MOST_FREE (by decide) (re_varO rfl))) rfl)
    · refine zm_skip ?_
      refine zm_for [3, 4] (fun (_ : Unit) => [(.own (dOb0 (T.A.ob .PairedWeb)) (oOb0 (T.A.ob .PairedWeb)) (some (.ref pp)) x0), (.val dInt pairs), (.val (dList (d := (dPair (d1 := dInt) (d2 := dInt)))) free), .no, .no, .no, .no]) () (wlen 7 (by exact rfl) (by exact rfl) (by decide)) rfl (fun _ => (wlen 7 (by exact rfl) (by exact rfl) (by decide))) (ie_eq (ie_list (we_var rfl)) rfl) (fun _ x2 => (a_name rfl ⟨(wlen 7 (by exact rfl) (by exact rfl) (by decide)), ?_⟩)) fun _ => ?_
      · refine zm_last ?_
        refine zm_for [4] (fun (_ : Unit) => [(.own (dOb0 (T.A.ob .PairedWeb)) (oOb0 (T.A.ob .PairedWeb)) (some (.ref pp)) x0), (.val dInt pairs), (.val (dList (d := (dPair (d1 := dInt) (d2 := dInt)))) free), (.val (dPair (d1 := dInt) (d2 := dInt)) x2), .no, .no, .no]) () (wlen 7 (by exact rfl) (by exact rfl) (by decide)) rfl (fun _ => (wlen 7 (by exact rfl) (by exact rfl) (by decide))) (ie_eq (ie_tup (we_pairL (we_var rfl))) rfl) (fun _ x4 => (a_name rfl ⟨(wlen 7 (by exact rfl) (by exact rfl) (by decide)), ?_⟩)) fun _ => ?_
        · refine zm_last ?_
          refine zm_ifP (te_eq (te_orP (te_test (we_lt (re_w (we_var rfl)) (re_w we_int))) (te_test (we_ge (re_w (we_var rfl)) (re_w (we_mulCl (re_w we_int) (re_w (we_var rfl))))))) rfl) ?_ ?_
          · exact zm_raise1 rfl rfl (re_eq (re_w (we_var rfl)) rfl)
          · refine zm_skip ?_
            exact zm_nextL rfl
        · exact zm_nextL rfl
      · refine zm_fld1 (i := 0) rfl (by decide) T.c_PairedWeb T.n_PairedWeb_pairs (we_eq (we_var rfl) rfl) fun f_8 => ?_
        refine zm_last ?_
        refine zm_fld2 (i := 0) rfl (by decide) rfl T.c_PairedWeb T.n_PairedWeb_free (we_eq (we_tupOf (we_o (oe_lc (tg_tup' (tgs_cons' (tg_name' (by decide)) (tgs_cons' (tg_name' (by decide)) tgs_nil'))) (ic_list (we_var rfl)) fun x9 => (a_pair rfl (a_name rfl (a_name rfl ⟨te_yes, (we_tup2 (we_var rfl) (we_var rfl))⟩)))))) rfl) fun f_11 => ?_
        exact zm_endI rfl
end K27

namespace K27
open PySem L2 G PM
set_option maxHeartbeats 4000000 in
theorem ok_l_parts {P : Program} {w : World} {K : PySem.W.Frag} {mg : Str → Option Value} {base : Heap} (T : Txt K mg) : FnOk P w K mg base (L2.CX P w) 1 T.a_l_parts T.f_l_parts ["_law_many", "_law_free", "_law_taken", "_law_pair"] (sp_l_parts ⟨P, w, K⟩ T.A) := by
  have nd := sc_l_parts.nd
  refine T.F_l_parts.okX sc_l_parts (fun vs H Q E h => ?_) (fun cdv A outer s H vs Q E hr h => ?_)
  · exact sp_l_parts_len h
  have hu := hu_of hr
  refine ⟨_, (pss_cons (ps_set (i := 4) nd rfl (Or.inl rfl) (pe_op op_catR (pe_lc (own := [("_law_other", 9)]) (by rfl) nd (pi_range1 (by rfl) T.b_range (pa_cons (pv 0) pa_nil)) (blkOk_by (own := [("_law_other", 9)]) (N := N_l_parts) (sc := defScope s_l_parts) (by decide +kernel)) (fun _ _ _ _ _ => (pg_name (i := 9) nd rfl (Or.inl rfl))) (fun _ _ _ _ _ => (pts_one (pt_cmpR op_ne (pv 9) (pv 3) (nomark _)))) (fun _ _ _ _ _ => (pe_tup (pa_cons (pe_op op_mul pe_int (pv 9)) (pa_cons (pe_op op_add (pe_op op_mul pe_int (pv 9)) pe_int) pa_nil))))) (pv 1)))
      (pss_cons (ps_set (i := 5) nd rfl (Or.inl rfl) (pe_lst (pa_cons (pe_op op_mul pe_int (pv 3)) pa_nil)))
      (pss_cons (ps_for (passes_of rfl) rfl (pi_range1 (by rfl) T.b_range (pa_cons (pe_op op_mul pe_int (pv 0)) pa_nil)) (pg_name (i := 6) nd rfl (Or.inl rfl))
        (pss_cons (ps_set (i := 7) nd rfl (Or.inl rfl) pe_bl)
      (pss_cons (ps_for (passes_of rfl) rfl (pi_lK K (pv 4)) (pg_name (i := 8) nd rfl (Or.inl rfl))
        (pss_one (ps_if (PW.pt (pw_and (pt_cmpR (op_niK K) (pe_op op_fdiv (pe_ix (ix_tK K) (pv 8) pe_int (fun _ _ => rfl)) pe_int) (pv 2) (by with_unfolding_all rfl)) (pw_and1 (pt_cmpR (op_niK K) (pe_op op_fdiv (pe_ix (ix_tK K) (pv 8) pe_int (fun _ _ => rfl)) pe_int) (pv 2) (by with_unfolding_all rfl)))))
        (pss_cons (ps_if (PW.pt (pw_and (pt_cmpR (op_inK K) (pe_ix (ix_tK K) (pv 8) pe_int (fun _ _ => rfl)) (pv 5) (by with_unfolding_all rfl)) (pw_and1 (pt_cmpR (op_niK K) (pe_ix (ix_tK K) (pv 8) pe_int (fun _ _ => rfl)) (pv 5) (by with_unfolding_all rfl)))))
        (pss_cons (ps_expr (bm_K K PySem.F.plainAttrs_list PySem.F.slot_list_append PySem.F.type_list_append mt_append (pv 5) (pa_cons (pe_ix (ix_tK K) (pv 8) pe_int (fun _ _ => rfl)) pa_nil)))
      (pss_one (ps_set (i := 7) nd rfl (Or.inl rfl) pe_bl)))
        pss_nil)
      (pss_one (ps_if (PW.pt (pw_and (pt_cmpR (op_inK K) (pe_ix (ix_tK K) (pv 8) pe_int (fun _ _ => rfl)) (pv 5) (by with_unfolding_all rfl)) (pw_and1 (pt_cmpR (op_niK K) (pe_ix (ix_tK K) (pv 8) pe_int (fun _ _ => rfl)) (pv 5) (by with_unfolding_all rfl)))))
        (pss_cons (ps_expr (bm_K K PySem.F.plainAttrs_list PySem.F.slot_list_append PySem.F.type_list_append mt_append (pv 5) (pa_cons (pe_ix (ix_tK K) (pv 8) pe_int (fun _ _ => rfl)) pa_nil)))
      (pss_one (ps_set (i := 7) nd rfl (Or.inl rfl) pe_bl)))
        pss_nil)))
        pss_nil)))
      (pss_one (ps_if (pt_not (pt_val (pv 7)))
        (pss_one ps_break)
        pss_nil)))))
      (pss_one (ps_ret (pe_cmpR (op_niK K) (pe_op op_add (pe_op op_mul pe_int (pv 3)) pe_int) (pv 5) (by with_unfolding_all rfl))))))), ?_⟩
  try dsimp only [cxOf]
  obtain ⟨many, free, taken, pair, nb, h⟩ := h
  refine Zm.body (js := [0, 1, 2, 3, 4, 5, 6, 7, 8, 9]) (m := l_parts_m many free taken pair) nb h ?_
  refine zm_to (Γ2 := [(.val dInt many), (.val (dList (d := (dPair (d1 := dInt) (d2 := dInt)))) free), (.val (dList (d := dInt)) taken), (.val dInt pair), .no, .no, .no, .no, .no, .no]) rfl ?_
  delta l_parts_m
  refine zm_set (i := 4) rfl (by decide) (we_eq (we_o (oe_cat (we_o (oe_lc (tg_name' (by decide)) (ic_range (re_w (we_var rfl))) fun x1 => (a_name rfl ⟨(te_test (we_neS (re_w (we_var rfl)) (re_w (we_var rfl)))), (we_tup2 (we_mulCl (re_w we_int) (re_w (we_var rfl))) (we_add (re_w (we_mulCl (re_w we_int) (re_w (we_var rfl)))) (re_w we_int)))⟩))) (we_var rfl))) rfl) fun ties_3 => ?_
  refine zm_setO (i := 5) rfl (by decide) (oe_eq (oe_lstN (wle_cons (we_mulCl (re_w we_int) (re_w (we_var rfl))) wle_nil) (asLenS asLen0) (by decide)) rfl) fun reached_4 => ?_
  refine zm_forC [6, 7, 8] (fun s5 => [(.val dInt many), (.val (dList (d := (dPair (d1 := dInt) (d2 := dInt)))) free), (.val (dList (d := dInt)) taken), (.val dInt pair), (.val (dList (d := (dPair (d1 := dInt) (d2 := dInt)))) ties_3), (.own (dList (d := dInt)) (oList (d := dInt)) none s5), .no, .no, .no, .no]) (fun (r : Empty) => nomatch r) reached_4 (wlen 10 (by exact rfl) (by exact rfl) (by decide)) rfl (fun _ => (wlen 10 (by exact rfl) (by exact rfl) (by decide))) (ie_eq (ie_range (re_w (we_mulCl (re_w we_int) (re_w (we_var rfl))))) rfl) (fun s5 x6 => (a_name rfl ⟨(wlen 10 (by exact rfl) (by exact rfl) (by decide)), ?_⟩)) (fun r => nomatch r) fun s17 => ?_
  · refine zm_set (i := 7) rfl (by decide) (we_eq we_bl rfl) fun changed_7 => ?_
    refine zm_for [8] (fun s8 => [(.val dInt many), (.val (dList (d := (dPair (d1 := dInt) (d2 := dInt)))) free), (.val (dList (d := dInt)) taken), (.val dInt pair), (.val (dList (d := (dPair (d1 := dInt) (d2 := dInt)))) ties_3), (.own (dList (d := dInt)) (oList (d := dInt)) none s8.1), (.val dInt x6), (.val dBool s8.2), .no, .no]) (s5, changed_7) (wlen 10 (by exact rfl) (by exact rfl) (by decide)) rfl (fun _ => (wlen 10 (by exact rfl) (by exact rfl) (by decide))) (ie_eq (ie_list (we_var rfl)) rfl) (fun s8 x9 => (a_name rfl ⟨(wlen 10 (by exact rfl) (by exact rfl) (by decide)), ?_⟩)) fun s15 => ?_
    · refine zm_last ?_
      refine zm_ifP (te_eq (te_andP (te_test (we_notin (re_w (we_fdivC (re_w (we_fst (we_var rfl))) (re_w we_int))) (re_w (we_var rfl)))) (te_test (we_notin (re_w (we_fdivC (re_w (we_snd (we_var rfl))) (re_w we_int))) (re_w (we_var rfl))))) rfl) ?_ ?_
      · refine zm_assoc ?_
        refine zm_join [] (fun s12 => [(.val dInt many), (.val (dList (d := (dPair (d1 := dInt) (d2 := dInt)))) free), (.val (dList (d := dInt)) taken), (.val dInt pair), (.val (dList (d := (dPair (d1 := dInt) (d2 := dInt)))) ties_3), (.own (dList (d := dInt)) (oList (d := dInt)) none s12.1), (.val dInt x6), (.val dBool s12.2), (.val (dPair (d1 := dInt) (d2 := dInt)) x9), .no]) (fun _ => (wlen 10 (by exact rfl) (by exact rfl) (by decide))) ?_ fun s12 => ?_
        · refine zm_last (zm_ifP (te_eq (te_andP (te_test (we_in (re_w (we_fst (we_var rfl))) (re_varO rfl))) (te_test (we_notin (re_w (we_snd (we_var rfl))) (re_varO rfl)))) rfl) ?_ ?_)
          · refine zm_assoc ?_
            refine zm_append (i := 5) rfl (by decide) (we_eq (we_snd (we_var rfl)) rfl) fun reached_10 => ?_
            refine zm_set (i := 7) rfl (by decide) (we_eq we_bl rfl) fun changed_11 => ?_
            exact zm_nextJ rfl
          · refine zm_skip ?_
            exact zm_nextJ rfl
        · refine zm_ifP (te_eq (te_andP (te_test (we_in (re_w (we_snd (we_var rfl))) (re_varO rfl))) (te_test (we_notin (re_w (we_fst (we_var rfl))) (re_varO rfl)))) rfl) ?_ ?_
          · refine zm_assoc ?_
            refine zm_append (i := 5) rfl (by decide) (we_eq (we_fst (we_var rfl)) rfl) fun reached_13 => ?_
            refine zm_set (i := 7) rfl (by decide) (we_eq we_bl rfl) fun changed_14 => ?_
            exact zm_nextL rfl
          · refine zm_skip ?_
            exact zm_nextL rfl
      · refine zm_skip ?_
        exact zm_nextL rfl
    · refine zm_last ?_
      refine zm_ifP (te_eq (te_not (te_B (we_var rfl))) rfl) ?_ ?_
      · exact zm_breakC rfl
      · refine zm_skip ?_
        exact zm_nextC rfl
  · refine zm_last ?_
    exact zm_ret (we_eq (we_notin (re_w (we_add (re_w (we_mulCl (re_w we_int) (re_w (we_var rfl)))) (re_w we_int))) (re_varO rfl)) rfl)
end K27

namespace K27
open PySem L2 G PM
set_option maxHeartbeats 4000000 in
theorem ok_l_due {P : Program} {w : World} {K : PySem.W.Frag} {mg : Str → Option Value} {base : Heap} (T : Txt K mg) (G_l_parts : FnOk P w K mg base (L2.CX P w) 1 T.a_l_parts T.f_l_parts ["_law_many", "_law_free", "_law_taken", "_law_pair"] (sp_l_parts ⟨P, w, K⟩ T.A)) : FnOk P w K mg base (L2.CX P w) 2 T.a_l_due T.f_l_due ["_law_many", "_law_free", "_law_taken", "_law_pair"] (sp_l_due ⟨P, w, K⟩ T.A) := by
  have nd := sc_l_due.nd
  refine T.F_l_due.okX sc_l_due (fun vs H Q E h => ?_) (fun cdv A outer s H vs Q E hr h => ?_)
  · exact sp_l_due_len h
  have hu := hu_of hr
  refine ⟨_, (pss_cons (ps_for (passes_of rfl) rfl (pi_lK K (pv 2)) (pg_name (i := 4) nd rfl (Or.inl rfl))
        (pss_one (ps_if (PW.pt (pw_or (pt_cmpR op_lt (pv 4) pe_int (nomark _)) (pw_or1 (pt_cmpR op_ge (pv 4) (pv 0) (nomark _)))))
        (pss_one (ps_ret (pe_tup (pa_cons pe_str (pa_cons (pv 4) pa_nil)))))
        pss_nil)))
      (pss_cons (ps_if (PW.pt (pw_or (pt_cmpR op_lt (pv 3) pe_int (nomark _)) (pw_or (pt_cmpR op_ge (pv 3) (pv 0) (nomark _)) (pw_or1 (pt_cmpR (op_inK K) (pv 3) (pv 2) (by with_unfolding_all rfl))))))
        (pss_one (ps_ret (pe_tup (pa_cons pe_str (pa_cons (pv 3) pa_nil)))))
        pss_nil)
      (pss_one (ps_ret (pe_tup (pa_cons pe_str (pa_cons (pe_callS G_l_parts (hr.mono (by decide)) (by rfl) T.g_l_parts T.F_l_parts.kp T.d_l_parts (fun σ => passAt (takes_of rfl rfl rfl rfl) σ) (pa_cons (pv 0) (pa_cons (pv 1) (pa_cons (pv 2) (pa_cons (pv 3) pa_nil))))) pa_nil))))))), ?_⟩
  try dsimp only [cxOf]
  obtain ⟨many, free, taken, pair, nb, h⟩ := h
  refine Zm.body (js := [0, 1, 2, 3, 4]) (m := l_due_m many free taken pair) nb h ?_
  refine zm_to (Γ2 := [(.val dInt many), (.val (dList (d := (dPair (d1 := dInt) (d2 := dInt)))) free), (.val (dList (d := dInt)) taken), (.val dInt pair), .no]) rfl ?_
  delta l_due_m
  refine zm_forC [4] (fun (_ : Unit) => [(.val dInt many), (.val (dList (d := (dPair (d1 := dInt) (d2 := dInt)))) free), (.val (dList (d := dInt)) taken), (.val dInt pair), .no]) (fun r => .val dU r) () (wlen 5 (by exact rfl) (by exact rfl) (by decide)) rfl (fun _ => (wlen 5 (by exact rfl) (by exact rfl) (by decide))) (ie_eq (ie_list (we_var rfl)) rfl) (fun _ x2 => (a_name rfl ⟨(wlen 5 (by exact rfl) (by exact rfl) (by decide)), ?_⟩)) rt_KF fun _ => ?_
  · refine zm_last ?_
    refine zm_ifP (te_eq (te_orP (te_test (we_lt (re_w (we_var rfl)) (re_w we_int))) (te_test (we_ge (re_w (we_var rfl)) (re_w (we_var rfl))))) rfl) ?_ ?_
    · exact zm_retC (we_eq (we_U (we_tup2 we_str (we_var rfl))) rfl)
    · refine zm_skip ?_
      exact zm_nextC rfl
  · refine zm_ifP (te_eq (te_orP (te_test (we_lt (re_w (we_var rfl)) (re_w we_int))) (te_orP (te_test (we_ge (re_w (we_var rfl)) (re_w (we_var rfl)))) (te_test (we_in (re_w (we_var rfl)) (re_w (we_var rfl)))))) rfl) ?_ ?_
    · exact zm_ret (we_eq (we_U (we_tup2 we_str (we_var rfl))) rfl)
    · refine zm_skip ?_
      refine zm_last ?_
      exact zm_ret (we_eq (we_U (we_tup2 we_str (we_call4 hs_l_parts rfl (we_var rfl) (we_var rfl) (we_var rfl) (we_var rfl)))) rfl)
end K27

namespace K27
open PySem L2 G PM
set_option maxHeartbeats 4000000 in
theorem ok_m_PairedWeb_points {P : Program} {w : World} {K : PySem.W.Frag} {mg : Str → Option Value} {base : Heap} (T : Txt K mg) : FnOk P w K mg base (L2.CX P w) 1 T.a_m_PairedWeb_points T.f_m_PairedWeb_points ["self"] (sp_m_PairedWeb_points ⟨P, w, K⟩ T.A) := by
  have nd := sc_m_PairedWeb_points.nd
  refine T.F_m_PairedWeb_points.okX sc_m_PairedWeb_points (fun vs H Q E h => ?_) (fun cdv A outer s H vs Q E hr h => ?_)
  · exact sp_m_PairedWeb_points_len h
  have hu := hu_of hr
  refine ⟨_, (pss_one (ps_ret (pe_op op_mul pe_int (fld_K K (pv 0) rfl)))), ?_⟩
  try dsimp only [cxOf]
  obtain ⟨self, nb, h⟩ := h
  refine Zm.body (js := [0]) (m := m_PairedWeb_points_m self) nb h ?_
  refine zm_to (Γ2 := [(.val (dPairedWeb T.A) self)]) rfl ?_
  delta m_PairedWeb_points_m
  refine zm_last ?_
  exact zm_ret (we_eq (we_mulCl (re_w we_int) (re_w (we_fld (isF_PairedWeb_pairs T.A) T.c_PairedWeb T.n_PairedWeb_pairs (we_var rfl)))) rfl)
end K27

namespace K27
open PySem L2 G PM
set_option maxHeartbeats 4000000 in
theorem ok_m_PairedWeb_all_ties {P : Program} {w : World} {K : PySem.W.Frag} {mg : Str → Option Value} {base : Heap} (T : Txt K mg) : FnOk P w K mg base (L2.CX P w) 1 T.a_m_PairedWeb_all_ties T.f_m_PairedWeb_all_ties ["self"] (sp_m_PairedWeb_all_ties ⟨P, w, K⟩ T.A) := by
  have nd := sc_m_PairedWeb_all_ties.nd
  refine T.F_m_PairedWeb_all_ties.okX sc_m_PairedWeb_all_ties (fun vs H Q E h => ?_) (fun cdv A outer s H vs Q E hr h => ?_)
  · exact sp_m_PairedWeb_all_ties_len h
  have hu := hu_of hr
  refine ⟨_, (pss_one (ps_ret (pe_op (catT_K K) (pe_callTy (tuple_K K) (by rfl) T.b_tuple (by decide +kernel) (pa_cons (pe_lc (own := [("pair", 1)]) (by rfl) nd (pi_range1 (by rfl) T.b_range (pa_cons (fld_K K (pv 0) rfl) pa_nil)) (blkOk_by (own := [("pair", 1)]) (N := N_m_PairedWeb_all_ties) (sc := defScope s_m_PairedWeb_all_ties) (by decide +kernel)) (fun _ _ _ _ _ => (pg_name (i := 1) nd rfl (Or.inl rfl))) (fun _ _ _ _ _ => pts_nil) (fun _ _ _ _ _ => (pe_tup (pa_cons (pe_op op_mul pe_int (pv 1)) (pa_cons (pe_op op_add (pe_op op_mul pe_int (pv 1)) pe_int) pa_nil))))) pa_nil)) (fld_K K (pv 0) rfl)))), ?_⟩
  try dsimp only [cxOf]
  obtain ⟨self, nb, h⟩ := h
  refine Zm.body (js := [0, 1]) (m := m_PairedWeb_all_ties_m self) nb h ?_
  refine zm_to (Γ2 := [(.val (dPairedWeb T.A) self), .no]) rfl ?_
  delta m_PairedWeb_all_ties_m
  refine zm_last ?_
  exact zm_ret (we_eq (we_catT (we_tupOf (we_o (oe_lc (tg_name' (by decide)) (ic_range (re_w (we_fld (isF_PairedWeb_pairs T.A) T.c_PairedWeb T.n_PairedWeb_pairs (we_var rfl)))) fun x1 => (a_name rfl ⟨te_yes, (we_tup2 (we_mulCl (re_w we_int) (re_w (we_var rfl))) (we_add (re_w (we_mulCl (re_w we_int) (re_w (we_var rfl)))) (re_w we_int)))⟩)))) (we_fld (isF_PairedWeb_free T.A) T.c_PairedWeb T.n_PairedWeb_free (we_var rfl))) rfl)
end K27

namespace K27
open PySem L2 G PM
set_option maxHeartbeats 4000000 in
theorem ok_p_grouped {P : Program} {w : World} {K : PySem.W.Frag} {mg : Str → Option Value} {base : Heap} (T : Txt K mg) : FnOk P w K mg base (L2.CX P w) 1 T.a_p_grouped T.f_p_grouped ["points", "ties"] (sp_p_grouped ⟨P, w, K⟩ T.A) := by
  have nd := sc_p_grouped.nd
  refine T.F_p_grouped.okX sc_p_grouped (fun vs H Q E h => ?_) (fun cdv A outer s H vs Q E hr h => ?_)
  · exact sp_p_grouped_len h
  have hu := hu_of hr
  refine ⟨_, (pss_cons (ps_setDc (i := 3) (own := [("point", 2)]) (by rfl) nd rfl rfl (sw_trueD rfl rfl rfl (by decide +kernel)) (pi_qK K (pv 0)) (blkOk_by (own := [("point", 2)]) (N := N_p_grouped) (sc := defScope s_p_grouped) (by decide +kernel)) (fun _ _ _ _ _ => (pg_name (i := 2) nd rfl (Or.inl rfl))) (fun _ _ _ _ _ => pts_nil) (fun _ _ _ _ _ => (pv 2)) (fun _ _ _ _ _ => (pe_lst pa_nil)))
      (pss_cons (ps_for (passes_of rfl) rfl (pi_lK K (pv 1)) (pg_tupK (n := 2) K (by rfl) (pgs_cons (pg_name (i := 4) nd rfl (Or.inl rfl)) (pgs_cons (pg_name (i := 5) nd rfl (Or.inl rfl)) pgs_nil)))
        (pss_one (ps_if (PW.pt (pw_and (pt_cmp (pc_din hu (pv 4) (pv 3))) (pw_and1 (pt_cmp (pc_din hu (pv 5) (pv 3))))))
        (pss_cons (ps_expr (bm_K K PySem.F.plainAttrs_list PySem.F.slot_list_append PySem.F.type_list_append mt_append (pe_dget hu (pv 3) (pv 4) (fun _ _ => rfl)) (pa_cons (pv 5) pa_nil)))
      (pss_one (ps_expr (bm_K K PySem.F.plainAttrs_list PySem.F.slot_list_append PySem.F.type_list_append mt_append (pe_dget hu (pv 3) (pv 5) (fun _ _ => rfl)) (pa_cons (pv 4) pa_nil)))))
        pss_nil)))
      (pss_cons (ps_set (i := 6) nd rfl (Or.inl rfl) (pe_lst pa_nil))
      (pss_cons (ps_set (i := 7) nd rfl (Or.inl rfl) (pe_callTy0 (set0_w w) (by rfl) T.b_set (by decide +kernel)))
      (pss_cons (ps_for (passes_of rfl) rfl (pi_lK K (pe_callB (sortedI_K K) (by rfl) T.b_sorted (by decide +kernel) (pa_cons (pv 0) pa_nil))) (pg_name (i := 2) nd rfl (Or.inl rfl))
        (pss_one (ps_if (pt_cmpR (snotin_w w) (pv 2) (pv 7) (by with_unfolding_all rfl))
        (pss_cons (ps_expr (sadd_w w (pv 7) (pa_cons (pv 2) pa_nil)))
      (pss_cons (ps_set (i := 8) nd rfl (Or.inl rfl) (pe_lst pa_nil))
      (pss_cons (ps_set (i := 9) nd rfl (Or.inl rfl) (pe_lst (pa_cons (pv 2) pa_nil)))
      (pss_cons (ps_while (passes_of rfl) (truth_K K (pv 9) (by intro _; rfl))
        (pss_cons (ps_set (i := 10) nd rfl (Or.inl rfl) (bm0_K K PySem.F.plainAttrs_list PySem.F.slot_list_pop PySem.F.type_list_pop mt_pop (pv 9)))
      (pss_cons (ps_expr (bm_K K PySem.F.plainAttrs_list PySem.F.slot_list_append PySem.F.type_list_append mt_append (pv 8) (pa_cons (pv 10) pa_nil)))
      (pss_one (ps_for (passes_of rfl) rfl (pi_lK K (pe_dget hu (pv 3) (pv 10) (fun _ _ => rfl))) (pg_name (i := 5) nd rfl (Or.inl rfl))
        (pss_one (ps_if (pt_cmpR (snotin_w w) (pv 5) (pv 7) (by with_unfolding_all rfl))
        (pss_cons (ps_expr (sadd_w w (pv 7) (pa_cons (pv 5) pa_nil)))
      (pss_one (ps_expr (bm_K K PySem.F.plainAttrs_list PySem.F.slot_list_append PySem.F.type_list_append mt_append (pv 9) (pa_cons (pv 5) pa_nil)))))
        pss_nil)))))))
      (pss_one (ps_expr (bm_K K PySem.F.plainAttrs_list PySem.F.slot_list_append PySem.F.type_list_append mt_append (pv 6) (pa_cons (pe_callB (sortedI_K K) (by rfl) T.b_sorted (by decide +kernel) (pa_cons (pv 8) pa_nil)) pa_nil))))))))
        pss_nil)))
      (pss_one (ps_ret (pv 6)))))))), ?_⟩
  try dsimp only [cxOf]
  obtain ⟨points, ties, nb, h⟩ := h
  refine Zm.body (js := [0, 1, 2, 3, 4, 5, 6, 7, 8, 9, 10]) (m := p_grouped_m points ties) nb h ?_
  refine zm_to (Γ2 := [(.val (dList (d := dInt)) points), (.val (dList (d := (dPair (d1 := dInt) (d2 := dInt)))) ties), .no, .no, .no, .no, .no, .no, .no, .no, .no]) rfl ?_
  delta p_grouped_m
  refine zm_setO (i := 3) rfl (by decide) (oe_eq (oe_dc (tg_name' (by decide)) (we_sqL (we_var rfl)) fun x1 => (a_name rfl ⟨te_yes, (we_var rfl), (oe_lst0 (d := dInt))⟩)) rfl) fun near_2 => ?_
  refine zm_for [4, 5] (fun s3 => [(.val (dList (d := dInt)) points), (.val (dList (d := (dPair (d1 := dInt) (d2 := dInt)))) ties), .no, (.own (dDI (d := (dList (d := dInt)))) (oDeepDI (oList (d := dInt))) none s3), .no, .no, .no, .no, .no, .no, .no]) near_2 (wlen 11 (by exact rfl) (by exact rfl) (by decide)) rfl (fun _ => (wlen 11 (by exact rfl) (by exact rfl) (by decide))) (ie_eq (ie_list (we_var rfl)) rfl) (fun s3 x4 => (a_pair rfl (a_name rfl (a_name rfl ⟨(wlen 11 (by exact rfl) (by exact rfl) (by decide)), ?_⟩)))) fun s7 => ?_
  · refine zm_last ?_
    refine zm_ifP (te_eq (te_andP (te_B (we_inDI (re_w (we_var rfl)) (re_varO rfl))) (te_B (we_inDI (re_w (we_var rfl)) (re_varO rfl)))) rfl) ?_ ?_
    · refine zm_assoc ?_
      refine zm_appDI (i := 3) rfl (by decide) (re_eq (re_w (we_var rfl)) rfl) (we_eq (we_var rfl) rfl) fun near_5 => ?_
      refine zm_appDI (i := 3) rfl (by decide) (re_eq (re_w (we_var rfl)) rfl) (we_eq (we_var rfl) rfl) fun near_6 => ?_
      exact zm_nextL rfl
    · refine zm_skip ?_
      exact zm_nextL rfl
  · refine zm_setO (i := 6) rfl (by decide) (oe_eq (oe_lst0 (d := (dList (d := dInt)))) rfl) fun groups_8 => ?_
    refine zm_setO (i := 7) rfl (by decide) (oe_eq oe_set0 rfl) fun seen_9 => ?_
    refine zm_frz 3 rfl (by decide) ?_
    refine zm_for [2, 5, 8, 9, 10] (fun s10 => [(.val (dList (d := dInt)) points), (.val (dList (d := (dPair (d1 := dInt) (d2 := dInt)))) ties), .no, (.val (dDI (d := (dList (d := dInt)))) s7), .no, .no, (.own (dList (d := (dList (d := dInt)))) (oList (d := (dList (d := dInt)))) none s10.1), (.own dSet oSet none s10.2), .no, .no, .no]) (groups_8, seen_9) (wlen 11 (by exact rfl) (by exact rfl) (by decide)) rfl (fun _ => (wlen 11 (by exact rfl) (by exact rfl) (by decide))) (ie_eq (ie_list (we_o (oe_sorted (re_w (we_var rfl))))) rfl) (fun s10 x19 => (a_name rfl ⟨(wlen 11 (by exact rfl) (by exact rfl) (by decide)), ?_⟩)) fun s34 => ?_
    · refine zm_last ?_
      refine zm_ifP (te_eq (te_test (we_notinS (re_w (we_var rfl)) (re_varO rfl))) rfl) ?_ ?_
      · refine zm_assoc ?_
        refine zm_sadd (i := 7) rfl (by decide) (re_eq (re_w (we_var rfl)) rfl) fun seen_20 => ?_
        refine zm_assoc ?_
        refine zm_setO (i := 8) rfl (by decide) (oe_eq (oe_lst0 (d := dInt)) rfl) fun group_21 => ?_
        refine zm_assoc ?_
        refine zm_setO (i := 9) rfl (by decide) (oe_eq (oe_lstN (wle_cons (we_var rfl) wle_nil) (asLenS asLen0) (by decide)) rfl) fun waiting_22 => ?_
        refine zm_assoc ?_
        refine zm_while [5, 10] (fun s23 => [(.val (dList (d := dInt)) points), (.val (dList (d := (dPair (d1 := dInt) (d2 := dInt)))) ties), (.val dInt x19), (.val (dDI (d := (dList (d := dInt)))) s7), .no, .no, (.own (dList (d := (dList (d := dInt)))) (oList (d := (dList (d := dInt)))) none s10.1), (.own dSet oSet none s23.1), (.own (dList (d := dInt)) (oList (d := dInt)) none s23.2.1), (.own (dList (d := dInt)) (oList (d := dInt)) none s23.2.2), .no]) (seen_20, group_21, waiting_22) rfl (fun _ => (wlen 11 (by exact rfl) (by exact rfl) (by decide))) (fun s23 => te_eq (te_truL (re_varO rfl)) rfl) (fun s23 => ?_) fun s32 => ?_
        · refine zm_pop (i := 9) (j := 10) rfl rfl rfl (by decide) (by decide) fun p24 => ?_
          refine zm_append (i := 8) rfl (by decide) (we_eq (we_var rfl) rfl) fun group_25 => ?_
          refine zm_last ?_
          refine zm_for [5] (fun s26 => [(.val (dList (d := dInt)) points), (.val (dList (d := (dPair (d1 := dInt) (d2 := dInt)))) ties), (.val dInt x19), (.val (dDI (d := (dList (d := dInt)))) s7), .no, .no, (.own (dList (d := (dList (d := dInt)))) (oList (d := (dList (d := dInt)))) none s10.1), (.own dSet oSet none s26.1), (.own (dList (d := dInt)) (oList (d := dInt)) none group_25), (.own (dList (d := dInt)) (oList (d := dInt)) none s26.2), (.val dInt p24.2)]) (s23.1, p24.1) (wlen 11 (by exact rfl) (by exact rfl) (by decide)) rfl (fun _ => (wlen 11 (by exact rfl) (by exact rfl) (by decide))) (ie_eq (ie_list (we_dget (we_var rfl) (re_w (we_var rfl)))) rfl) (fun s26 x27 => (a_name rfl ⟨(wlen 11 (by exact rfl) (by exact rfl) (by decide)), ?_⟩)) fun s30 => ?_
          · refine zm_last ?_
            refine zm_ifP (te_eq (te_test (we_notinS (re_w (we_var rfl)) (re_varO rfl))) rfl) ?_ ?_
            · refine zm_assoc ?_
              refine zm_sadd (i := 7) rfl (by decide) (re_eq (re_w (we_var rfl)) rfl) fun seen_28 => ?_
              refine zm_append (i := 9) rfl (by decide) (we_eq (we_var rfl) rfl) fun waiting_29 => ?_
              exact zm_nextL rfl
            · refine zm_skip ?_
              exact zm_nextL rfl
          · exact zm_nextL rfl
        · refine zm_append (i := 6) rfl (by decide) (we_eq (we_o (oe_sorted (re_varO rfl))) rfl) fun groups_33 => ?_
          exact zm_nextL rfl
      · refine zm_skip ?_
        exact zm_nextL rfl
    · refine zm_last ?_
      exact zm_retV rfl
end K27

namespace K27
open PySem L2 G PM
set_option maxHeartbeats 4000000 in
theorem ok_p_parts_points {P : Program} {w : World} {K : PySem.W.Frag} {mg : Str → Option Value} {base : Heap} (T : Txt K mg) (G_m_PairedWeb_points : FnOk P w K mg base (L2.CX P w) 1 T.a_m_PairedWeb_points T.f_m_PairedWeb_points ["self"] (sp_m_PairedWeb_points ⟨P, w, K⟩ T.A)) (G_m_PairedWeb_all_ties : FnOk P w K mg base (L2.CX P w) 1 T.a_m_PairedWeb_all_ties T.f_m_PairedWeb_all_ties ["self"] (sp_m_PairedWeb_all_ties ⟨P, w, K⟩ T.A)) (G_p_grouped : FnOk P w K mg base (L2.CX P w) 1 T.a_p_grouped T.f_p_grouped ["points", "ties"] (sp_p_grouped ⟨P, w, K⟩ T.A)) : FnOk P w K mg base (L2.CX P w) 3 T.a_p_parts_points T.f_p_parts_points ["paired", "taken", "pair"] (sp_p_parts_points ⟨P, w, K⟩ T.A) := by
  have nd := sc_p_parts_points.nd
  refine T.F_p_parts_points.okX sc_p_parts_points (fun vs H Q E h => ?_) (fun cdv A outer s H vs Q E hr h => ?_)
  · exact sp_p_parts_points_len h
  have hu := hu_of hr
  refine ⟨_, (pss_cons (ps_setLc (i := 3) (own := [("point", 5)]) (by rfl) nd rfl rfl (sw_true rfl rfl rfl (by decide +kernel)) (pi_range1 (by rfl) T.b_range (pa_cons (pe_prop (pv 0) T.c_PairedWeb T.p_m_PairedWeb_points G_m_PairedWeb_points (hr.mono (by decide)) T.d_m_PairedWeb_points .nil passF rfl) pa_nil)) (blkOk_by (own := [("point", 5)]) (N := N_p_parts_points) (sc := defScope s_p_parts_points) (by decide +kernel)) (fun _ _ _ _ _ => (pg_name (i := 5) nd rfl (Or.inl rfl))) (fun _ _ _ _ _ => (pts_one (pt_cmpR (op_niK K) (pe_op op_fdiv (pv 5) pe_int) (pv 1) (by with_unfolding_all rfl)))) (fun _ _ _ _ _ => (pv 5)))
      (pss_cons (ps_setLc (i := 4) (own := [("number", 6), ("tie", 7)]) (by rfl) nd rfl rfl (sw_true rfl rfl rfl (by decide +kernel)) (pi_enTB K (by rfl) T.b_enumerate (pa_cons (pe_prop (pv 0) T.c_PairedWeb T.p_m_PairedWeb_all_ties G_m_PairedWeb_all_ties (hr.mono (by decide)) T.d_m_PairedWeb_all_ties .nil passF rfl) pa_nil)) (blkOk_by (own := [("number", 6), ("tie", 7)]) (N := N_p_parts_points) (sc := defScope s_p_parts_points) (by decide +kernel)) (fun _ _ _ _ _ => (pg_tupK (n := 2) K (by rfl) (pgs_cons (pg_name (i := 6) nd rfl (Or.inl rfl)) (pgs_cons (pg_name (i := 7) nd rfl (Or.inl rfl)) pgs_nil)))) (fun _ _ _ _ _ => (pts_one (pt_cmpR op_ne (pv 6) (pv 2) (nomark _)))) (fun _ _ _ _ _ => (pv 7)))
      (pss_one (ps_ret (pe_not (pe_callB (any_K K rfl) (by rfl) T.b_any (by decide +kernel) (pa_cons (pe_lc (own := [("group", 8)]) (by rfl) nd (pi_lB K (pe_callS G_p_grouped (hr.mono (by decide)) (by rfl) T.g_p_grouped T.F_p_grouped.kp T.d_p_grouped (fun σ => passAt (takes_of rfl rfl rfl rfl) σ) (pa_cons (pv 3) (pa_cons (pv 4) pa_nil)))) (blkOk_by (own := [("group", 8)]) (N := N_p_parts_points) (sc := defScope s_p_parts_points) (by decide +kernel)) (fun _ _ _ _ _ => (pg_name (i := 8) nd rfl (Or.inl rfl))) (fun _ _ _ _ _ => pts_nil) (fun _ _ _ _ _ => (pe_and (pe_cmpR (op_inK K) (pe_op op_mul pe_int (pv 2)) (pv 8) (by with_unfolding_all rfl)) (pe_one (pe_cmpR (op_inK K) (pe_op op_add (pe_op op_mul pe_int (pv 2)) pe_int) (pv 8) (by with_unfolding_all rfl)))))) pa_nil))))))), ?_⟩
  try dsimp only [cxOf]
  obtain ⟨paired, taken, pair, nb, h⟩ := h
  refine Zm.body (js := [0, 1, 2, 3, 4, 5, 6, 7, 8]) (m := p_parts_points_m paired taken pair) nb h ?_
  refine zm_to (Γ2 := [(.val (dPairedWeb T.A) paired), (.val (dList (d := dInt)) taken), (.val dInt pair), .no, .no, .no, .no, .no, .no]) rfl ?_
  delta p_parts_points_m
  refine zm_set (i := 3) rfl (by decide) (we_eq (we_o (oe_lc (tg_name' (by decide)) (ic_range (re_w (we_prop hs_m_PairedWeb_points (isI_PairedWeb T.A) (we_var rfl)))) fun x2 => (a_name rfl ⟨(te_test (we_notin (re_w (we_fdivC (re_w (we_var rfl)) (re_w we_int))) (re_w (we_var rfl)))), (we_var rfl)⟩))) rfl) fun points_3 => ?_
  refine zm_set (i := 4) rfl (by decide) (we_eq (we_o (oe_lc (tg_tup' (tgs_cons' (tg_name' (by decide)) (tgs_cons' (tg_name' (by decide)) tgs_nil'))) (ic_enumT (we_prop hs_m_PairedWeb_all_ties (isI_PairedWeb T.A) (we_var rfl))) fun x5 => (a_pair rfl (a_name rfl (a_name rfl ⟨(te_test (we_neS (re_w (we_var rfl)) (re_w (we_var rfl)))), (we_var rfl)⟩))))) rfl) fun ties_6 => ?_
  refine zm_last ?_
  exact zm_ret (we_eq (we_not (we_any (re_w (we_o (oe_lc (tg_name' (by decide)) (ic_list (we_o (oe_call2 hs_p_grouped rfl (we_var rfl) (we_var rfl)))) fun x7 => (a_name rfl ⟨te_yes, (we_andP (we_in (re_w (we_mulCl (re_w we_int) (re_w (we_var rfl)))) (re_w (we_var rfl))) (we_in (re_w (we_add (re_w (we_mulCl (re_w we_int) (re_w (we_var rfl)))) (re_w we_int))) (re_w (we_var rfl))))⟩)))))) rfl)
end K27

namespace K27
open PySem L2 G PM
set_option maxHeartbeats 4000000 in
theorem ok_p_is_bridge {P : Program} {w : World} {K : PySem.W.Frag} {mg : Str → Option Value} {base : Heap} (T : Txt K mg) (G_p_parts_points : FnOk P w K mg base (L2.CX P w) 3 T.a_p_parts_points T.f_p_parts_points ["paired", "taken", "pair"] (sp_p_parts_points ⟨P, w, K⟩ T.A)) (G_x_UnknownPair : FnOk P w K mg base (L2.CX P w) 1 T.i_UnknownPair T.fx_UnknownPair ["self", "pair"] (spX1 (T.A.tx .UnknownPair) "pair")) : FnOk P w K mg base (L2.CX P w) 4 T.a_p_is_bridge T.f_p_is_bridge ["paired", "taken", "pair"] (sp_p_is_bridge ⟨P, w, K⟩ T.A) := by
  have nd := sc_p_is_bridge.nd
  refine T.F_p_is_bridge.okX sc_p_is_bridge (fun vs H Q E h => ?_) (fun cdv A outer s H vs Q E hr h => ?_)
  · exact sp_p_is_bridge_len h
  have hu := hu_of hr
  refine ⟨_, (pss_cons (ps_for (passes_of rfl) rfl (pi_lK K (pe_lst (star_K K (pv 1) (pa_cons (pv 2) pa_nil)))) (pg_name (i := 3) nd rfl (Or.inl rfl))
        (pss_one (ps_if (PW.pt (pw_or (pt_cmpR op_lt (pv 3) pe_int (nomark _)) (pw_or1 (pt_cmpR op_ge (pv 3) (fld_K K (pv 0) rfl) (nomark _)))))
        (pss_one (ps_raise rfl (takes_of rfl rfl rfl rfl) (pmk_oex T.x_UnknownPair.T T.x_UnknownPair.init T.x_UnknownPair.fn G_x_UnknownPair (hr.mono (by decide)) T.dx_UnknownPair .nil passF (by rfl) T.g_UnknownPair (pa_cons (pv 3) pa_nil))))
        pss_nil)))
      (pss_cons (ps_if (pt_cmpR (op_inK K) (pv 2) (pv 1) (by with_unfolding_all rfl))
        (pss_one (ps_raise rfl (takes_of rfl rfl rfl rfl) (pmk_oex T.x_UnknownPair.T T.x_UnknownPair.init T.x_UnknownPair.fn G_x_UnknownPair (hr.mono (by decide)) T.dx_UnknownPair .nil passF (by rfl) T.g_UnknownPair (pa_cons (pv 2) pa_nil))))
        pss_nil)
      (pss_one (ps_ret (pe_callS G_p_parts_points (hr.mono (by decide)) (by rfl) T.g_p_parts_points T.F_p_parts_points.kp T.d_p_parts_points (fun σ => passAt (takes_of rfl rfl rfl rfl) σ) (pa_cons (pv 0) (pa_cons (pv 1) (pa_cons (pv 2) pa_nil)))))))), ?_⟩
  try dsimp only [cxOf]
  obtain ⟨paired, taken, pair, nb, h⟩ := h
  refine Zm.body (js := [0, 1, 2, 3]) (m := p_is_bridge_m paired taken pair) nb h ?_
  refine zm_to (Γ2 := [(.val (dPairedWeb T.A) paired), (.val (dList (d := dInt)) taken), (.val dInt pair), .no]) rfl ?_
  delta p_is_bridge_m
  refine zm_for [3] (fun (_ : Unit) => [(.val (dPairedWeb T.A) paired), (.val (dList (d := dInt)) taken), (.val dInt pair), .no]) () (wlen 4 (by exact rfl) (by exact rfl) (by decide)) rfl (fun _ => (wlen 4 (by exact rfl) (by exact rfl) (by decide))) (ie_eq (ie_list (we_o (oe_star (we_sqL (we_var rfl)) (we_var rfl)))) rfl) (fun _ x2 => (a_name rfl ⟨(wlen 4 (by exact rfl) (by exact rfl) (by decide)), ?_⟩)) fun _ => ?_
  · refine zm_last ?_
    refine zm_ifP (te_eq (te_orP (te_test (we_lt (re_w (we_var rfl)) (re_w we_int))) (te_test (we_ge (re_w (we_var rfl)) (re_w (we_fld (isF_PairedWeb_pairs T.A) T.c_PairedWeb T.n_PairedWeb_pairs (we_var rfl)))))) rfl) ?_ ?_
    · exact zm_raise1 rfl rfl (re_eq (re_w (we_var rfl)) rfl)
    · refine zm_skip ?_
      exact zm_nextL rfl
  · refine zm_ifP (te_eq (te_test (we_in (re_w (we_var rfl)) (re_w (we_var rfl)))) rfl) ?_ ?_
    · exact zm_raise1 rfl rfl (re_eq (re_w (we_var rfl)) rfl)
    · refine zm_skip ?_
      refine zm_last ?_
      exact zm_ret (we_eq (we_call3 hs_p_parts_points rfl (we_var rfl) (we_var rfl) (we_var rfl)) rfl)
end K27

namespace K27
open PySem L2 G PM
set_option maxHeartbeats 4000000 in
theorem ok_l_told {P : Program} {w : World} {K : PySem.W.Frag} {mg : Str → Option Value} {base : Heap} (T : Txt K mg) (G_p_is_bridge : FnOk P w K mg base (L2.CX P w) 4 T.a_p_is_bridge T.f_p_is_bridge ["paired", "taken", "pair"] (sp_p_is_bridge ⟨P, w, K⟩ T.A)) : FnOk P w K mg base (L2.CX P w) 5 T.a_l_told T.f_l_told ["_law_paired_here", "_law_taken", "_law_pair"] (sp_l_told ⟨P, w, K⟩ T.A) := by
  have nd := sc_l_told.nd
  refine T.F_l_told.okX sc_l_told (fun vs H Q E h => ?_) (fun cdv A outer s H vs Q E hr h => ?_)
  · exact sp_l_told_len h
  have hu := hu_of hr
  refine ⟨_, (pss_one (try_as K (i := 4) rfl rfl nd rfl rfl ⟨rfl, by decide, .inl T.g_ComesapartError⟩ (takes_of rfl rfl rfl rfl) (fun W pn xe tk _ => (pss_cons (ps_set (i := 3) nd rfl (Or.inl rfl) (pe_callS G_p_is_bridge (hr.mono (by decide)) (by rfl) T.g_p_is_bridge T.F_p_is_bridge.kp T.d_p_is_bridge (fun σ => passAt tk σ) (pa_cons (pv 0) (pa_cons (pv 1) (pa_cons (pv 2) pa_nil)))))
      (pss_cons (ps_if (pt_not (pt_val (pe_callB (isi_K K) (by rfl) T.b_isinstance (by decide +kernel) (pa_cons (pv 3) (pa_cons (pe_bltn (v := .ty "bool") (by rfl) T.b_bool (by decide +kernel) rfl) pa_nil)))))
        (pss_one (ps_ret (pe_tup (pa_cons pe_str pa_nil))))
        pss_nil)
      (pss_one (ps_ret (pe_tup (pa_cons pe_str (pa_cons (pv 3) pa_nil)))))))) (fun a oe cls d pn hz hf => (pss_cons (ps_if (PW.pt (pw_or (pt_not (pt_val (pe_callB (call_isX hz hf) (by rfl) T.b_isinstance (by decide +kernel) (pa_cons (pv 4) (pa_cons (pe_glob (v := .ref (T.A.tx .UnknownPair)) (by rfl) T.g_UnknownPair rfl) pa_nil))))) (pw_or (pt_not (pt_val (pe_callB (call_isX hz hf) (by rfl) T.b_isinstance (by decide +kernel) (pa_cons (pv 4) (pa_cons (pe_bltn (v := .ty "ValueError") (by rfl) T.b_ValueError (by decide +kernel) rfl) pa_nil))))) (pw_or1 (pt_not (pt_val (pe_callB (isi_K K) (by rfl) T.b_isinstance (by decide +kernel) (pa_cons (pe_xf T.xf_UnknownPair T.no_UnknownPair_pair hz hf (pv 4)) (pa_cons (pe_bltn (v := .ty "int") (by rfl) T.b_int (by decide +kernel) rfl) pa_nil)))))))))
        (pss_one (ps_ret (pe_tup (pa_cons pe_str pa_nil))))
        pss_nil)
      (pss_one (ps_ret (pe_tup (pa_cons pe_str (pa_cons (pe_xf T.xf_UnknownPair T.no_UnknownPair_pair hz hf (pv 4)) pa_nil))))))))), ?_⟩
  try dsimp only [cxOf]
  obtain ⟨paired_here, taken, pair, nb, h⟩ := h
  refine Zm.body (js := [0, 1, 2, 3, 4]) (m := l_told_m paired_here taken pair) nb h ?_
  refine zm_to (Γ2 := [(.val (dPairedWeb T.A) paired_here), (.val (dList (d := dInt)) taken), (.val dInt pair), .no, .no]) rfl ?_
  delta l_told_m
  refine zm_last ?_
  refine zm_tryT (js := [0, 1, 2, 3, 4]) [3] (i := 4) rfl ⟨_, rfl⟩ (by decide) (by decide) T.hx_ComesapartError (fun W kb => ?_) (fun px2 a dd hkn hp => ?_)
  · refine zm_set (i := 3) rfl (by decide) (we_eq (we_call3 hs_p_is_bridge rfl (we_var rfl) (we_var rfl) (we_var rfl)) rfl) fun answer_1 => ?_
    refine zm_ifP (te_eq (te_not (te_B (we_isi (b := true) (kit_ty (by decide +kernel)) (re_w (we_var rfl))))) rfl) ?_ ?_
    · exact zm_ret (we_eq (we_U (we_tup1 we_str)) rfl)
    · refine zm_skip ?_
      refine zm_last ?_
      exact zm_ret (we_eq (we_U (we_tup2 we_str (we_var rfl))) rfl)
  · refine zm_if (te_eq (te_or (te_not (te_B (we_isX (b := fun c => XC.isA c .UnknownPair) rfl hkn T.exc (fun u e => by cases e; rfl) T.kx_UnknownPair))) (te_or (te_not (te_B (we_isX (b := fun _ => true) rfl hkn T.exc (fun u e => by cases e; rfl) T.kx_ValueError))) (te_not (te_B (we_isi (b := true) (kit_ty (by decide +kernel)) (re_w (we_xf rfl rfl))))))) rfl) ?_ ?_
    · exact zm_ret (we_eq (we_U (we_tup1 we_str)) rfl)
    · refine zm_skip ?_
      refine zm_last ?_
      exact zm_ret (we_eq (we_U (we_tup2 we_str (we_xf rfl rfl))) rfl)
end K27

namespace K27
open PySem L2 G PM
set_option maxHeartbeats 4000000 in
theorem ok_p_parts_points_v2 {P : Program} {w : World} {K : PySem.W.Frag} {mg : Str → Option Value} {base : Heap} (T : Txt K mg) (G_m_PairedWeb_points : FnOk P w K mg base (L2.CX P w) 1 T.a_m_PairedWeb_points T.f_m_PairedWeb_points ["self"] (sp_m_PairedWeb_points ⟨P, w, K⟩ T.A)) (G_m_PairedWeb_all_ties : FnOk P w K mg base (L2.CX P w) 1 T.a_m_PairedWeb_all_ties T.f_m_PairedWeb_all_ties ["self"] (sp_m_PairedWeb_all_ties ⟨P, w, K⟩ T.A)) (G_p_grouped : FnOk P w K mg base (L2.CX P w) 1 T.a_p_grouped T.f_p_grouped ["points", "ties"] (sp_p_grouped ⟨P, w, K⟩ T.A)) : FnOk P w K mg base (L2.CX P w) 3 T.a_p_parts_points T.f_p_parts_points ["paired", "taken", "pair"] (sp_p_parts_points_v2 ⟨P, w, K⟩ T.A) := by
  have nd := sc_p_parts_points.nd
  refine T.F_p_parts_points.okX sc_p_parts_points (fun vs H Q E h => ?_) (fun cdv A outer s H vs Q E hr h => ?_)
  · exact sp_p_parts_points_v2_len h
  have hu := hu_of hr
  refine ⟨_, (pss_cons (ps_setLc (i := 3) (own := [("point", 5)]) (by rfl) nd rfl rfl (sw_true rfl rfl rfl (by decide +kernel)) (pi_range1 (by rfl) T.b_range (pa_cons (pe_prop (pv 0) T.c_PairedWeb T.p_m_PairedWeb_points G_m_PairedWeb_points (hr.mono (by decide)) T.d_m_PairedWeb_points .nil passF rfl) pa_nil)) (blkOk_by (own := [("point", 5)]) (N := N_p_parts_points) (sc := defScope s_p_parts_points) (by decide +kernel)) (fun _ _ _ _ _ => (pg_name (i := 5) nd rfl (Or.inl rfl))) (fun _ _ _ _ _ => (pts_one (pt_cmpR (op_niK K) (pe_op op_fdiv (pv 5) pe_int) (pv 1) (by with_unfolding_all rfl)))) (fun _ _ _ _ _ => (pv 5)))
      (pss_cons (ps_setLc (i := 4) (own := [("number", 6), ("tie", 7)]) (by rfl) nd rfl rfl (sw_true rfl rfl rfl (by decide +kernel)) (pi_enTB K (by rfl) T.b_enumerate (pa_cons (pe_prop (pv 0) T.c_PairedWeb T.p_m_PairedWeb_all_ties G_m_PairedWeb_all_ties (hr.mono (by decide)) T.d_m_PairedWeb_all_ties .nil passF rfl) pa_nil)) (blkOk_by (own := [("number", 6), ("tie", 7)]) (N := N_p_parts_points) (sc := defScope s_p_parts_points) (by decide +kernel)) (fun _ _ _ _ _ => (pg_tupK (n := 2) K (by rfl) (pgs_cons (pg_name (i := 6) nd rfl (Or.inl rfl)) (pgs_cons (pg_name (i := 7) nd rfl (Or.inl rfl)) pgs_nil)))) (fun _ _ _ _ _ => (pts_one (pt_cmpR op_ne (pv 6) (pv 2) (nomark _)))) (fun _ _ _ _ _ => (pv 7)))
      (pss_one (ps_ret (pe_not (pe_callB (any_K K rfl) (by rfl) T.b_any (by decide +kernel) (pa_cons (pe_lc (own := [("group", 8)]) (by rfl) nd (pi_lB K (pe_callS G_p_grouped (hr.mono (by decide)) (by rfl) T.g_p_grouped T.F_p_grouped.kp T.d_p_grouped (fun σ => passAt (takes_of rfl rfl rfl rfl) σ) (pa_cons (pv 3) (pa_cons (pv 4) pa_nil)))) (blkOk_by (own := [("group", 8)]) (N := N_p_parts_points) (sc := defScope s_p_parts_points) (by decide +kernel)) (fun _ _ _ _ _ => (pg_name (i := 8) nd rfl (Or.inl rfl))) (fun _ _ _ _ _ => pts_nil) (fun _ _ _ _ _ => (pe_and (pe_cmpR (op_inK K) (pe_op op_mul pe_int (pv 2)) (pv 8) (by with_unfolding_all rfl)) (pe_one (pe_cmpR (op_inK K) (pe_op op_add (pe_op op_mul pe_int (pv 2)) pe_int) (pv 8) (by with_unfolding_all rfl)))))) pa_nil))))))), ?_⟩
  try dsimp only [cxOf]
  obtain ⟨paired, taken, pair, nb, h⟩ := h
  refine Zm.body (js := [0, 1, 2, 3, 4, 5, 6, 7, 8]) (m := p_parts_points_v2_m paired taken pair) nb h ?_
  refine zm_to (Γ2 := [(.val (dPairedWeb T.A) paired), (.val (dTup (d := dInt)) taken), (.val dInt pair), .no, .no, .no, .no, .no, .no]) rfl ?_
  delta p_parts_points_v2_m
  refine zm_set (i := 3) rfl (by decide) (we_eq (we_o (oe_lc (tg_name' (by decide)) (ic_range (re_w (we_prop hs_m_PairedWeb_points (isI_PairedWeb T.A) (we_var rfl)))) fun x2 => (a_name rfl ⟨(te_test (we_notinT (re_w (we_fdivC (re_w (we_var rfl)) (re_w we_int))) (re_w (we_var rfl)))), (we_var rfl)⟩))) rfl) fun points_3 => ?_
  refine zm_set (i := 4) rfl (by decide) (we_eq (we_o (oe_lc (tg_tup' (tgs_cons' (tg_name' (by decide)) (tgs_cons' (tg_name' (by decide)) tgs_nil'))) (ic_enumT (we_prop hs_m_PairedWeb_all_ties (isI_PairedWeb T.A) (we_var rfl))) fun x5 => (a_pair rfl (a_name rfl (a_name rfl ⟨(te_test (we_neS (re_w (we_var rfl)) (re_w (we_var rfl)))), (we_var rfl)⟩))))) rfl) fun ties_6 => ?_
  refine zm_last ?_
  exact zm_ret (we_eq (we_not (we_any (re_w (we_o (oe_lc (tg_name' (by decide)) (ic_list (we_o (oe_call2 hs_p_grouped rfl (we_var rfl) (we_var rfl)))) fun x7 => (a_name rfl ⟨te_yes, (we_andP (we_in (re_w (we_mulCl (re_w we_int) (re_w (we_var rfl)))) (re_w (we_var rfl))) (we_in (re_w (we_add (re_w (we_mulCl (re_w we_int) (re_w (we_var rfl)))) (re_w we_int))) (re_w (we_var rfl))))⟩)))))) rfl)
end K27

namespace K27
open PySem L2 G PM
set_option maxHeartbeats 4000000 in
theorem ok_p_is_bridge_v2 {P : Program} {w : World} {K : PySem.W.Frag} {mg : Str → Option Value} {base : Heap} (T : Txt K mg) (G_p_parts_points_v2 : FnOk P w K mg base (L2.CX P w) 3 T.a_p_parts_points T.f_p_parts_points ["paired", "taken", "pair"] (sp_p_parts_points_v2 ⟨P, w, K⟩ T.A)) (G_x_UnknownPair : FnOk P w K mg base (L2.CX P w) 1 T.i_UnknownPair T.fx_UnknownPair ["self", "pair"] (spX1 (T.A.tx .UnknownPair) "pair")) : FnOk P w K mg base (L2.CX P w) 4 T.a_p_is_bridge T.f_p_is_bridge ["paired", "taken", "pair"] (sp_p_is_bridge_v2 ⟨P, w, K⟩ T.A) := by
  have nd := sc_p_is_bridge.nd
  refine T.F_p_is_bridge.okX sc_p_is_bridge (fun vs H Q E h => ?_) (fun cdv A outer s H vs Q E hr h => ?_)
  · exact sp_p_is_bridge_v2_len h
  have hu := hu_of hr
  refine ⟨_, (pss_cons (ps_for (passes_of rfl) rfl (pi_lK K (pe_lst (star_K K (pv 1) (pa_cons (pv 2) pa_nil)))) (pg_name (i := 3) nd rfl (Or.inl rfl))
        (pss_one (ps_if (PW.pt (pw_or (pt_cmpR op_lt (pv 3) pe_int (nomark _)) (pw_or1 (pt_cmpR op_ge (pv 3) (fld_K K (pv 0) rfl) (nomark _)))))
        (pss_one (ps_raise rfl (takes_of rfl rfl rfl rfl) (pmk_oex T.x_UnknownPair.T T.x_UnknownPair.init T.x_UnknownPair.fn G_x_UnknownPair (hr.mono (by decide)) T.dx_UnknownPair .nil passF (by rfl) T.g_UnknownPair (pa_cons (pv 3) pa_nil))))
        pss_nil)))
      (pss_cons (ps_if (pt_cmpR (op_inK K) (pv 2) (pv 1) (by with_unfolding_all rfl))
        (pss_one (ps_raise rfl (takes_of rfl rfl rfl rfl) (pmk_oex T.x_UnknownPair.T T.x_UnknownPair.init T.x_UnknownPair.fn G_x_UnknownPair (hr.mono (by decide)) T.dx_UnknownPair .nil passF (by rfl) T.g_UnknownPair (pa_cons (pv 2) pa_nil))))
        pss_nil)
      (pss_one (ps_ret (pe_callS G_p_parts_points_v2 (hr.mono (by decide)) (by rfl) T.g_p_parts_points T.F_p_parts_points.kp T.d_p_parts_points (fun σ => passAt (takes_of rfl rfl rfl rfl) σ) (pa_cons (pv 0) (pa_cons (pv 1) (pa_cons (pv 2) pa_nil)))))))), ?_⟩
  try dsimp only [cxOf]
  obtain ⟨paired, taken, pair, nb, h⟩ := h
  refine Zm.body (js := [0, 1, 2, 3]) (m := p_is_bridge_v2_m paired taken pair) nb h ?_
  refine zm_to (Γ2 := [(.val (dPairedWeb T.A) paired), (.val (dTup (d := dInt)) taken), (.val dInt pair), .no]) rfl ?_
  delta p_is_bridge_v2_m
  refine zm_for [3] (fun (_ : Unit) => [(.val (dPairedWeb T.A) paired), (.val (dTup (d := dInt)) taken), (.val dInt pair), .no]) () (wlen 4 (by exact rfl) (by exact rfl) (by decide)) rfl (fun _ => (wlen 4 (by exact rfl) (by exact rfl) (by decide))) (ie_eq (ie_list (we_o (oe_star (we_sqT (we_var rfl)) (we_var rfl)))) rfl) (fun _ x2 => (a_name rfl ⟨(wlen 4 (by exact rfl) (by exact rfl) (by decide)), ?_⟩)) fun _ => ?_
  · refine zm_last ?_
    refine zm_ifP (te_eq (te_orP (te_test (we_lt (re_w (we_var rfl)) (re_w we_int))) (te_test (we_ge (re_w (we_var rfl)) (re_w (we_fld (isF_PairedWeb_pairs T.A) T.c_PairedWeb T.n_PairedWeb_pairs (we_var rfl)))))) rfl) ?_ ?_
    · exact zm_raise1 rfl rfl (re_eq (re_w (we_var rfl)) rfl)
    · refine zm_skip ?_
      exact zm_nextL rfl
  · refine zm_ifP (te_eq (te_test (we_inT (re_w (we_var rfl)) (re_w (we_var rfl)))) rfl) ?_ ?_
    · exact zm_raise1 rfl rfl (re_eq (re_w (we_var rfl)) rfl)
    · refine zm_skip ?_
      refine zm_last ?_
      exact zm_ret (we_eq (we_call3 hs_p_parts_points_v2 rfl (we_var rfl) (we_var rfl) (we_var rfl)) rfl)
end K27

namespace K27
open PySem L2 G PM
set_option maxHeartbeats 4000000 in
theorem ok_l_told_v2 {P : Program} {w : World} {K : PySem.W.Frag} {mg : Str → Option Value} {base : Heap} (T : Txt K mg) (G_p_is_bridge_v2 : FnOk P w K mg base (L2.CX P w) 4 T.a_p_is_bridge T.f_p_is_bridge ["paired", "taken", "pair"] (sp_p_is_bridge_v2 ⟨P, w, K⟩ T.A)) : FnOk P w K mg base (L2.CX P w) 5 T.a_l_told T.f_l_told ["_law_paired_here", "_law_taken", "_law_pair"] (sp_l_told_v2 ⟨P, w, K⟩ T.A) := by
  have nd := sc_l_told.nd
  refine T.F_l_told.okX sc_l_told (fun vs H Q E h => ?_) (fun cdv A outer s H vs Q E hr h => ?_)
  · exact sp_l_told_v2_len h
  have hu := hu_of hr
  refine ⟨_, (pss_one (try_as K (i := 4) rfl rfl nd rfl rfl ⟨rfl, by decide, .inl T.g_ComesapartError⟩ (takes_of rfl rfl rfl rfl) (fun W pn xe tk _ => (pss_cons (ps_set (i := 3) nd rfl (Or.inl rfl) (pe_callS G_p_is_bridge_v2 (hr.mono (by decide)) (by rfl) T.g_p_is_bridge T.F_p_is_bridge.kp T.d_p_is_bridge (fun σ => passAt tk σ) (pa_cons (pv 0) (pa_cons (pv 1) (pa_cons (pv 2) pa_nil)))))
      (pss_cons (ps_if (pt_not (pt_val (pe_callB (isi_K K) (by rfl) T.b_isinstance (by decide +kernel) (pa_cons (pv 3) (pa_cons (pe_bltn (v := .ty "bool") (by rfl) T.b_bool (by decide +kernel) rfl) pa_nil)))))
        (pss_one (ps_ret (pe_tup (pa_cons pe_str pa_nil))))
        pss_nil)
      (pss_one (ps_ret (pe_tup (pa_cons pe_str (pa_cons (pv 3) pa_nil)))))))) (fun a oe cls d pn hz hf => (pss_cons (ps_if (PW.pt (pw_or (pt_not (pt_val (pe_callB (call_isX hz hf) (by rfl) T.b_isinstance (by decide +kernel) (pa_cons (pv 4) (pa_cons (pe_glob (v := .ref (T.A.tx .UnknownPair)) (by rfl) T.g_UnknownPair rfl) pa_nil))))) (pw_or (pt_not (pt_val (pe_callB (call_isX hz hf) (by rfl) T.b_isinstance (by decide +kernel) (pa_cons (pv 4) (pa_cons (pe_bltn (v := .ty "ValueError") (by rfl) T.b_ValueError (by decide +kernel) rfl) pa_nil))))) (pw_or1 (pt_not (pt_val (pe_callB (isi_K K) (by rfl) T.b_isinstance (by decide +kernel) (pa_cons (pe_xf T.xf_UnknownPair T.no_UnknownPair_pair hz hf (pv 4)) (pa_cons (pe_bltn (v := .ty "int") (by rfl) T.b_int (by decide +kernel) rfl) pa_nil)))))))))
        (pss_one (ps_ret (pe_tup (pa_cons pe_str pa_nil))))
        pss_nil)
      (pss_one (ps_ret (pe_tup (pa_cons pe_str (pa_cons (pe_xf T.xf_UnknownPair T.no_UnknownPair_pair hz hf (pv 4)) pa_nil))))))))), ?_⟩
  try dsimp only [cxOf]
  obtain ⟨paired_here, taken, pair, nb, h⟩ := h
  refine Zm.body (js := [0, 1, 2, 3, 4]) (m := l_told_v2_m paired_here taken pair) nb h ?_
  refine zm_to (Γ2 := [(.val (dPairedWeb T.A) paired_here), (.val (dTup (d := dInt)) taken), (.val dInt pair), .no, .no]) rfl ?_
  delta l_told_v2_m
  refine zm_last ?_
  refine zm_tryT (js := [0, 1, 2, 3, 4]) [3] (i := 4) rfl ⟨_, rfl⟩ (by decide) (by decide) T.hx_ComesapartError (fun W kb => ?_) (fun px2 a dd hkn hp => ?_)
  · refine zm_set (i := 3) rfl (by decide) (we_eq (we_call3 hs_p_is_bridge_v2 rfl (we_var rfl) (we_var rfl) (we_var rfl)) rfl) fun answer_1 => ?_
    refine zm_ifP (te_eq (te_not (te_B (we_isi (b := true) (kit_ty (by decide +kernel)) (re_w (we_var rfl))))) rfl) ?_ ?_
    · exact zm_ret (we_eq (we_U (we_tup1 we_str)) rfl)
    · refine zm_skip ?_
      refine zm_last ?_
      exact zm_ret (we_eq (we_U (we_tup2 we_str (we_var rfl))) rfl)
  · refine zm_if (te_eq (te_or (te_not (te_B (we_isX (b := fun c => XC.isA c .UnknownPair) rfl hkn T.exc (fun u e => by cases e; rfl) T.kx_UnknownPair))) (te_or (te_not (te_B (we_isX (b := fun _ => true) rfl hkn T.exc (fun u e => by cases e; rfl) T.kx_ValueError))) (te_not (te_B (we_isi (b := true) (kit_ty (by decide +kernel)) (re_w (we_xf rfl rfl))))))) rfl) ?_ ?_
    · exact zm_ret (we_eq (we_U (we_tup1 we_str)) rfl)
    · refine zm_skip ?_
      refine zm_last ?_
      exact zm_ret (we_eq (we_U (we_tup2 we_str (we_xf rfl rfl))) rfl)
end K27

namespace K27
open PySem L2 G PM
set_option maxHeartbeats 4000000 in
theorem ok_l_right {P : Program} {w : World} {K : PySem.W.Frag} {mg : Str → Option Value} {base : Heap} (T : Txt K mg) (G_m_PairedWebX_initX : FnOk P w K mg base (L2.CX P w) 3 T.a_m_PairedWebX_initX T.f_m_PairedWebX_initX ["self", "pairs", "free"] (sp_m_PairedWebX_initX ⟨P, w, K⟩ T.A)) (G_l_due : FnOk P w K mg base (L2.CX P w) 2 T.a_l_due T.f_l_due ["_law_many", "_law_free", "_law_taken", "_law_pair"] (sp_l_due ⟨P, w, K⟩ T.A)) (G_l_told : FnOk P w K mg base (L2.CX P w) 5 T.a_l_told T.f_l_told ["_law_paired_here", "_law_taken", "_law_pair"] (sp_l_told ⟨P, w, K⟩ T.A)) (G_l_told_v2 : FnOk P w K mg base (L2.CX P w) 5 T.a_l_told T.f_l_told ["_law_paired_here", "_law_taken", "_law_pair"] (sp_l_told_v2 ⟨P, w, K⟩ T.A)) : FnOk P w K mg base (L2.CX P w) 6 T.a_l_right T.f_l_right ["_law_many", "_law_free", "_law_taken", "_law_pairs"] (sp_l_right ⟨P, w, K⟩ T.A) := by
  have nd := sc_l_right.nd
  refine T.F_l_right.okX sc_l_right (fun vs H Q E h => ?_) (fun cdv A outer s H vs Q E hr h => ?_)
  · exact sp_l_right_len h
  have hu := hu_of hr
  refine ⟨_, (pss_cons (ps_set (i := 4) nd rfl (Or.inl rfl) (pe_makeS T.mk_PairedWeb G_m_PairedWebX_initX (hr.mono (by decide)) (by rfl) T.g_PairedWeb T.d_m_PairedWebX_initX (fun σ => passAt (takes_of rfl rfl rfl rfl) σ) (pa_cons (pv 0) (pa_cons (pv 1) pa_nil))))
      (pss_cons (ps_for (passes_of rfl) rfl (pi_lK K (pv 3)) (pg_name (i := 5) nd rfl (Or.inl rfl))
        (pss_cons (ps_set (i := 6) nd rfl (Or.inl rfl) (pe_callS G_l_due (hr.mono (by decide)) (by rfl) T.g_l_due T.F_l_due.kp T.d_l_due (fun σ => passAt (takes_of rfl rfl rfl rfl) σ) (pa_cons (pv 0) (pa_cons (pv 1) (pa_cons (pv 2) (pa_cons (pv 5) pa_nil))))))
      (pss_cons (ps_set (i := 7) nd rfl (Or.inl rfl) (pe_callTy (list_K K) (by rfl) T.b_list (by decide +kernel) (pa_cons (pv 2) pa_nil)))
      (pss_cons (ps_if (PW.pt (pw_or (pt_cmpR (op_neDK K (hu64 hr)) (pe_callS G_l_told (hr.mono (by decide)) (by rfl) T.g_l_told T.F_l_told.kp T.d_l_told (fun σ => passAt (takes_of rfl rfl rfl rfl) σ) (pa_cons (pv 4) (pa_cons (pv 7) (pa_cons (pv 5) pa_nil)))) (pv 6) (nomark _)) (pw_or1 (pt_cmpR (op_neDK K (hu64 hr)) (pv 7) (pv 2) (nomark _)))))
        (pss_one (ps_ret pe_bl))
        pss_nil)
      (pss_one (ps_if (pt_cmpR (op_neDK K (hu64 hr)) (pe_callS G_l_told_v2 (hr.mono (by decide)) (by rfl) T.g_l_told T.F_l_told.kp T.d_l_told (fun σ => passAt (takes_of rfl rfl rfl rfl) σ) (pa_cons (pv 4) (pa_cons (pe_callTy (tuple_K K) (by rfl) T.b_tuple (by decide +kernel) (pa_cons (pv 2) pa_nil)) (pa_cons (pv 5) pa_nil)))) (pv 6) (nomark _))
        (pss_one (ps_ret pe_bl))
        pss_nil))))))
      (pss_one (ps_ret pe_bl)))), ?_⟩
  try dsimp only [cxOf]
  obtain ⟨many, free, taken, pairs, nb, h⟩ := h
  refine Zm.body (js := [0, 1, 2, 3, 4, 5, 6, 7]) (m := l_right_m many free taken pairs) nb h ?_
  refine zm_to (Γ2 := [(.val dInt many), (.val (dList (d := (dPair (d1 := dInt) (d2 := dInt)))) free), (.val (dList (d := dInt)) taken), (.val (dList (d := dInt)) pairs), .no, .no, .no, .no]) rfl ?_
  delta l_right_m
  refine zm_set (i := 4) rfl (by decide) (we_eq (we_o (oe_make2 hs_m_PairedWebX_initX rfl (we_var rfl) (we_var rfl))) rfl) fun paired_here_1 => ?_
  refine zm_forC [5, 6, 7] (fun (_ : Unit) => [(.val dInt many), (.val (dList (d := (dPair (d1 := dInt) (d2 := dInt)))) free), (.val (dList (d := dInt)) taken), (.val (dList (d := dInt)) pairs), (.val (dPairedWeb T.A) paired_here_1), .no, .no, .no]) (fun r => .val dBool r) () (wlen 8 (by exact rfl) (by exact rfl) (by decide)) rfl (fun _ => (wlen 8 (by exact rfl) (by exact rfl) (by decide))) (ie_eq (ie_list (we_var rfl)) rfl) (fun _ x3 => (a_name rfl ⟨(wlen 8 (by exact rfl) (by exact rfl) (by decide)), ?_⟩)) rt_KF fun _ => ?_
  · refine zm_set (i := 6) rfl (by decide) (we_eq (we_call4 hs_l_due rfl (we_var rfl) (we_var rfl) (we_var rfl) (we_var rfl)) rfl) fun due_here_4 => ?_
    refine zm_set (i := 7) rfl (by decide) (we_eq (we_o (oe_listOf (we_var rfl))) rfl) fun passed_5 => ?_
    refine zm_if (te_eq (te_or (te_test (we_neU (re_w (we_call3 hs_l_told rfl (we_var rfl) (we_var rfl) (we_var rfl))) (re_w (we_var rfl)))) (te_test (we_neD (by decide) (re_w (we_var rfl)) (re_w (we_var rfl))))) rfl) ?_ ?_
    · exact zm_retC (we_eq we_bl rfl)
    · refine zm_skip ?_
      refine zm_last ?_
      refine zm_if (te_eq (te_test (we_neU (re_w (we_call3 hs_l_told_v2 rfl (we_var rfl) (we_tupOf (we_var rfl)) (we_var rfl))) (re_w (we_var rfl)))) rfl) ?_ ?_
      · exact zm_retC (we_eq we_bl rfl)
      · refine zm_skip ?_
        exact zm_nextC rfl
  · refine zm_last ?_
    exact zm_ret (we_eq we_bl rfl)
end K27

namespace K27
open PySem L2 G PM
set_option maxHeartbeats 4000000 in
theorem ok_law {P : Program} {w : World} {K : PySem.W.Frag} {mg : Str → Option Value} {base : Heap} (T : Txt K mg) (G_l_cell : FnOk P w K mg base (L2.CX P w) 1 T.a_l_cell T.f_l_cell ["_law_script", "_law_k"] (sp_l_cell ⟨P, w, K⟩ T.A)) (G_l_draws : FnOk P w K mg base (L2.CX P w) 1 T.a_l_draws T.f_l_draws ["_law_cell_here", "_law_many"] (sp_l_draws ⟨P, w, K⟩ T.A)) (G_l_pick : FnOk P w K mg base (L2.CX P w) 1 T.a_l_pick T.f_l_pick ["_law_draws_here", "_law_k", "_law_many"] (sp_l_pick ⟨P, w, K⟩ T.A)) (G_l_only : FnOk P w K mg base (L2.CX P w) 2 T.a_l_only T.f_l_only ["_law_draws_here", "_law_most_pairs", "_law_most_free"] (sp_l_only ⟨P, w, K⟩ T.A)) (G_l_paired : FnOk P w K mg base (L2.CX P w) 2 T.a_l_paired T.f_l_paired ["_law_draws_here", "_law_most_pairs", "_law_most_free"] (sp_l_paired ⟨P, w, K⟩ T.A)) (G_l_some : FnOk P w K mg base (L2.CX P w) 2 T.a_l_some T.f_l_some ["_law_draws_here", "_law_at", "_law_items", "_law_share"] (sp_l_some ⟨P, w, K⟩ T.A)) (G_l_bad : FnOk P w K mg base (L2.CX P w) 2 T.a_l_bad T.f_l_bad ["_law_draws_here", "_law_at", "_law_taken", "_law_many"] (sp_l_bad ⟨P, w, K⟩ T.A)) (G_l_right : FnOk P w K mg base (L2.CX P w) 6 T.a_l_right T.f_l_right ["_law_many", "_law_free", "_law_taken", "_law_pairs"] (sp_l_right ⟨P, w, K⟩ T.A)) : FnOk P w K mg base CX0 7 T.a_law T.f_law ["_law_script"] (sp_law ⟨P, w, K⟩) := by
  have nd := sc_law.nd
  refine T.F_law.ok sc_law (fun vs H Q E h => ?_) (fun cdv A outer s H vs Q E hr h => ?_)
  · exact sp_law_len h
  have hu := hu_of hr
  refine ⟨_, (pss_cons (ps_set (i := 1) nd rfl (Or.inl rfl) (pe_op op_catR (pe_callS G_l_draws (hr.mono (by decide)) (by rfl) T.g_l_draws T.F_l_draws.kp T.d_l_draws (fun σ => passFS σ) (pa_cons (pe_callS G_l_cell (hr.mono (by decide)) (by rfl) T.g_l_cell T.F_l_cell.kp T.d_l_cell (fun σ => passFS σ) (pa_cons (pv 0) (pa_cons pe_int pa_nil))) (pa_cons pe_int pa_nil))) (pe_callS G_l_draws (hr.mono (by decide)) (by rfl) T.g_l_draws T.F_l_draws.kp T.d_l_draws (fun σ => passFS σ) (pa_cons (pe_callS G_l_cell (hr.mono (by decide)) (by rfl) T.g_l_cell T.F_l_cell.kp T.d_l_cell (fun σ => passFS σ) (pa_cons (pv 0) (pa_cons pe_int pa_nil))) (pa_cons pe_int pa_nil)))))
      (pss_cons (ps_set (i := 2) nd rfl (Or.inl rfl) (pe_callS G_l_draws (hr.mono (by decide)) (by rfl) T.g_l_draws T.F_l_draws.kp T.d_l_draws (fun σ => passFS σ) (pa_cons (pe_callS G_l_cell (hr.mono (by decide)) (by rfl) T.g_l_cell T.F_l_cell.kp T.d_l_cell (fun σ => passFS σ) (pa_cons (pv 0) (pa_cons pe_int pa_nil))) (pa_cons pe_int pa_nil))))
      (pss_cons (ps_if (pt_cmpR op_eq (pe_callS G_l_pick (hr.mono (by decide)) (by rfl) T.g_l_pick T.F_l_pick.kp T.d_l_pick (fun σ => passFS σ) (pa_cons (pv 2) (pa_cons pe_int (pa_cons pe_int pa_nil)))) pe_int (nomark _))
        (pss_one (ps_asg (pe_callS G_l_only (hr.mono (by decide)) (by rfl) T.g_l_only T.F_l_only.kp T.d_l_only (fun σ => passFS σ) (pa_cons (pv 1) (pa_cons pe_int (pa_cons pe_int pa_nil)))) (pg_tupK (n := 2) K (by rfl) (pgs_cons (pg_name (i := 3) nd rfl (Or.inl rfl)) (pgs_cons (pg_name (i := 4) nd rfl (Or.inl rfl)) pgs_nil)))))
        (pss_one (ps_asg (pe_callS G_l_paired (hr.mono (by decide)) (by rfl) T.g_l_paired T.F_l_paired.kp T.d_l_paired (fun σ => passFS σ) (pa_cons (pv 1) (pa_cons pe_int (pa_cons pe_int pa_nil)))) (pg_tupK (n := 2) K (by rfl) (pgs_cons (pg_name (i := 3) nd rfl (Or.inl rfl)) (pgs_cons (pg_name (i := 4) nd rfl (Or.inl rfl)) pgs_nil))))))
      (pss_cons (ps_set (i := 5) nd rfl (Or.inl rfl) (pe_callS G_l_some (hr.mono (by decide)) (by rfl) T.g_l_some T.F_l_some.kp T.d_l_some (fun σ => passFS σ) (pa_cons (pv 2) (pa_cons pe_int (pa_cons (pe_listRg rfl (by rfl) T.b_list (prg_1 (by rfl) T.b_range (pv 3))) (pa_cons (pe_op op_add pe_int (pe_callS G_l_pick (hr.mono (by decide)) (by rfl) T.g_l_pick T.F_l_pick.kp T.d_l_pick (fun σ => passFS σ) (pa_cons (pv 2) (pa_cons pe_int (pa_cons pe_int pa_nil))))) pa_nil))))))
      (pss_cons (ps_set (i := 6) nd rfl (Or.inl rfl) (pe_callS G_l_bad (hr.mono (by decide)) (by rfl) T.g_l_bad T.F_l_bad.kp T.d_l_bad (fun σ => passFS σ) (pa_cons (pv 2) (pa_cons pe_int (pa_cons (pv 5) (pa_cons (pv 3) pa_nil))))))
      (pss_cons (ps_set (i := 7) nd rfl (Or.inl rfl) (pe_op op_catR (pe_lst (pa_cons (pe_un un_neg pe_int) (pa_cons (pv 3) (pa_cons (pe_op op_pow pe_int pe_int) pa_nil)))) (pe_listRg rfl (by rfl) T.b_list (prg_1 (by rfl) T.b_range (pv 3)))))
      (pss_cons (ps_if (PW.pt (pw_or (pt_not (pt_val (pe_callS G_l_right (hr.mono (by decide)) (by rfl) T.g_l_right T.F_l_right.kp T.d_l_right (fun σ => passFS σ) (pa_cons (pv 3) (pa_cons (pv 4) (pa_cons (pv 5) (pa_cons (pv 7) pa_nil))))))) (pw_or1 (pt_not (pt_val (pe_callS G_l_right (hr.mono (by decide)) (by rfl) T.g_l_right T.F_l_right.kp T.d_l_right (fun σ => passFS σ) (pa_cons (pv 3) (pa_cons (pv 4) (pa_cons (pe_lst pa_nil) (pa_cons (pe_listRg rfl (by rfl) T.b_list (prg_1 (by rfl) T.b_range (pv 3))) pa_nil))))))))))
        (pss_one (ps_ret pe_bl))
        pss_nil)
      (pss_cons (ps_if (pt_not (pt_val (pe_callS G_l_right (hr.mono (by decide)) (by rfl) T.g_l_right T.F_l_right.kp T.d_l_right (fun σ => passFS σ) (pa_cons (pv 3) (pa_cons (pe_slice (sl_lK K) (pv 4) po_none (po_some (pe_un un_neg pe_int))) (pa_cons (pv 5) (pa_cons (pv 7) pa_nil)))))))
        (pss_one (ps_ret pe_bl))
        pss_nil)
      (pss_one (ps_ret (pe_and (pe_callS G_l_right (hr.mono (by decide)) (by rfl) T.g_l_right T.F_l_right.kp T.d_l_right (fun σ => passFS σ) (pa_cons (pv 3) (pa_cons (pv 4) (pa_cons (pv 6) (pa_cons (pe_slice (sl_lK K) (pv 7) (po_some pe_int) (po_some pe_int)) pa_nil))))) (pe_one (pe_callS G_l_right (hr.mono (by decide)) (by rfl) T.g_l_right T.F_l_right.kp T.d_l_right (fun σ => passFS σ) (pa_cons (pv 3) (pa_cons (pv 4) (pa_cons (pv 5) (pa_cons (pe_listRg rfl (by rfl) T.b_list (prg_1 (by rfl) T.b_range (pv 3))) pa_nil))))))))))))))))), ?_⟩
  try dsimp only [cxOf]
  obtain ⟨script, e, h⟩ := h
  refine Zm.body0 (tx := T.A.tx) (js := [0, 1, 2, 3, 4, 5, 6, 7]) (m := law_m script) e h ?_
  refine zm_to (Γ2 := [(.val (dSq (d := dInt)) script), .no, .no, .no, .no, .no, .no, .no]) rfl ?_
  delta law_m
  refine zm_set (i := 1) rfl (by decide) (we_eq (we_o (oe_cat (we_o (oe_call2 hs_l_draws rfl (we_call2 hs_l_cell rfl (we_var rfl) we_int) we_int)) (we_o (oe_call2 hs_l_draws rfl (we_call2 hs_l_cell rfl (we_var rfl) we_int) we_int)))) rfl) fun draws_here_5 => ?_
  refine zm_set (i := 2) rfl (by decide) (we_eq (we_o (oe_call2 hs_l_draws rfl (we_call2 hs_l_cell rfl (we_var rfl) we_int) we_int)) rfl) fun extra_7 => ?_
  refine zm_join [] (fun s11 => [(.val (dSq (d := dInt)) script), (.val (dList (d := dInt)) draws_here_5), (.val (dList (d := dInt)) extra_7), (.val dInt s11.1), (.val (dList (d := (dPair (d1 := dInt) (d2 := dInt)))) s11.2), .no, .no, .no]) (fun _ => (wlen 8 (by exact rfl) (by exact rfl) (by decide))) ?_ fun s11 => ?_
  · refine zm_last (zm_if (te_eq (te_test (we_eqS (re_w (we_call3 hs_l_pick rfl (we_var rfl) we_int we_int)) (re_w we_int))) rfl) ?_ ?_)
    · refine zm_setG (we_eq (we_call3 hs_l_only rfl (we_var rfl) we_int we_int) rfl) fun t9 => (a_pair rfl (a_name rfl (a_name rfl ⟨(wlen 8 (by exact rfl) (by exact rfl) (by decide)), ?_⟩)))
      exact zm_nextJ rfl
    · refine zm_setG (we_eq (we_call3 hs_l_paired rfl (we_var rfl) we_int we_int) rfl) fun t10 => (a_pair rfl (a_name rfl (a_name rfl ⟨(wlen 8 (by exact rfl) (by exact rfl) (by decide)), ?_⟩)))
      exact zm_nextJ rfl
  · refine zm_set (i := 5) rfl (by decide) (we_eq (we_o (oe_call4 hs_l_some rfl (we_var rfl) we_int (we_o (oe_listRg1 (re_w (we_var rfl)))) (we_add (re_w we_int) (re_w (we_call3 hs_l_pick rfl (we_var rfl) we_int we_int))))) rfl) fun taken_16 => ?_
    refine zm_set (i := 6) rfl (by decide) (we_eq (we_o (oe_call4 hs_l_bad rfl (we_var rfl) we_int (we_var rfl) (we_var rfl))) rfl) fun bad_here_17 => ?_
    refine zm_set (i := 7) rfl (by decide) (we_eq (we_o (oe_cat (we_o (oe_lstN (wle_cons (we_neg (re_w we_int)) (wle_cons (we_var rfl) (wle_cons (we_powC (c := 1000000000000000000000000000000) (re_w we_int) (re_w we_int) (by decide)) wle_nil))) (asLenS (asLenS (asLenS asLen0))) (by decide))) (we_o (oe_listRg1 (re_w (we_var rfl)))))) rfl) fun pairs_19 => ?_
    refine zm_if (te_eq (te_or (te_not (te_B (we_call4 hs_l_right rfl (we_var rfl) (we_var rfl) (we_var rfl) (we_var rfl)))) (te_not (te_B (we_call4 hs_l_right rfl (we_var rfl) (we_var rfl) (we_o (oe_lst0 (d := dInt))) (we_o (oe_listRg1 (re_w (we_var rfl)))))))) rfl) ?_ ?_
    · exact zm_ret (we_eq we_bl rfl)
    · refine zm_skip ?_
      refine zm_if (te_eq (te_not (te_B (we_call4 hs_l_right rfl (we_var rfl) (we_o (oe_sl (we_var rfl) toe_none (toe_some (re_w (we_neg (re_w we_int)))))) (we_var rfl) (we_var rfl)))) rfl) ?_ ?_
      · exact zm_ret (we_eq we_bl rfl)
      · refine zm_skip ?_
        refine zm_last ?_
        exact zm_ret (we_eq (we_and (we_call4 hs_l_right rfl (we_var rfl) (we_var rfl) (we_var rfl) (we_o (oe_sl (we_var rfl) (toe_some (re_w we_int)) (toe_some (re_w we_int))))) (we_call4 hs_l_right rfl (we_var rfl) (we_var rfl) (we_var rfl) (we_o (oe_listRg1 (re_w (we_var rfl)))))) rfl)
end K27

namespace K27
open PySem L2 G PM
set_option maxHeartbeats 0 in
theorem all_mk {w : World} {K : PySem.W.Frag} {h : Heap} {mg : Str → Option Value} {fa : Addr} (X : K.In h) (G : h.Ns mainGlobals mg) (hfa : mg "law" = some (.ref fa))
    {C_PairedWeb : Addr}
    {t_PairedWeb_MOST_FREE : _}
    {t_PairedWeb_MOST_PAIRS : _}
    {D_ComesapartError : Addr}
    {D_TooLarge : Addr}
    {D_UnknownPair : Addr}
    {D_UnknownPoint : Addr}
    {od0 an0 : Option Addr} {sl0 : Array (Option Value)} {oc0 kV0 dc0 pm0 cd0 ct0 : Value} {f0 : Addr}
    {od1 an1 : Option Addr} {sl1 : Array (Option Value)} {oc1 kV1 dc1 pm1 cd1 ct1 : Value} {f1 : Addr}
    {od2 an2 : Option Addr} {sl2 : Array (Option Value)} {oc2 kV2 dc2 pm2 cd2 ct2 : Value} {f2 : Addr}
    {od3 an3 : Option Addr} {sl3 : Array (Option Value)} {oc3 kV3 dc3 pm3 cd3 ct3 : Value} {f3 : Addr}
    {od4 an4 : Option Addr} {sl4 : Array (Option Value)} {oc4 kV4 dc4 pm4 cd4 ct4 : Value} {f4 : Addr}
    {od5 an5 : Option Addr} {sl5 : Array (Option Value)} {oc5 kV5 dc5 pm5 cd5 ct5 : Value} {f5 : Addr}
    {od6 an6 : Option Addr} {sl6 : Array (Option Value)} {oc6 kV6 dc6 pm6 cd6 ct6 : Value} {f6 : Addr}
    {od7 an7 : Option Addr} {sl7 : Array (Option Value)} {oc7 kV7 dc7 pm7 cd7 ct7 : Value} {f7 : Addr}
    {od8 an8 : Option Addr} {sl8 : Array (Option Value)} {oc8 kV8 dc8 pm8 cd8 ct8 : Value} {f8 : Addr}
    {od9 an9 : Option Addr} {sl9 : Array (Option Value)} {oc9 kV9 dc9 pm9 cd9 ct9 : Value} {f9 : Addr}
    {od10 an10 : Option Addr} {sl10 : Array (Option Value)} {oc10 kV10 dc10 pm10 cd10 ct10 : Value} {f10 : Addr}
    {r10 : Addr} {rest10 : List Value}
    {od11 an11 : Option Addr} {sl11 : Array (Option Value)} {oc11 kV11 dc11 pm11 cd11 ct11 : Value} {f11 : Addr}
    {r11 : Addr} {rest11 : List Value}
    {od12 an12 : Option Addr} {sl12 : Array (Option Value)} {oc12 kV12 dc12 pm12 cd12 ct12 : Value} {f12 : Addr}
    {od13 an13 : Option Addr} {sl13 : Array (Option Value)} {oc13 kV13 dc13 pm13 cd13 ct13 : Value} {f13 : Addr}
    {od14 an14 : Option Addr} {sl14 : Array (Option Value)} {oc14 kV14 dc14 pm14 cd14 ct14 : Value} {f14 : Addr}
    {od15 an15 : Option Addr} {sl15 : Array (Option Value)} {oc15 kV15 dc15 pm15 cd15 ct15 : Value} {f15 : Addr}
    {od16 an16 : Option Addr} {sl16 : Array (Option Value)} {oc16 kV16 dc16 pm16 cd16 ct16 : Value} {f16 : Addr}
    {od17 an17 : Option Addr} {sl17 : Array (Option Value)} {oc17 kV17 dc17 pm17 cd17 ct17 : Value} {f17 : Addr}
    {xo_TooLarge xd_TooLarge : Option Addr} {xs_TooLarge xt_TooLarge xu_TooLarge : Array (Option Value)} {xa_TooLarge xb_TooLarge xc_TooLarge xdc_TooLarge xpm_TooLarge xct_TooLarge : Value} {xf_TooLarge cc_TooLarge cda_TooLarge : Addr} {xe_TooLarge : Option Addr} {vs_TooLarge : Array Value} {cdx_TooLarge : ClassData}
    {nm_TooLarge q_TooLarge : Str} {N_TooLarge : Addr} {bs_TooLarge bm_TooLarge : List Value} {sn_TooLarge : _} {sub_TooLarge : _} {ab_TooLarge : _} {col_TooLarge : _} {dd_TooLarge : _} {k0_TooLarge : _} {k1_TooLarge : _} {k2_TooLarge : _} {k3_TooLarge : _} {k5_TooLarge : _}
    {fl_TooLarge : Str} {tf_TooLarge : _}
    {xo_UnknownPair xd_UnknownPair : Option Addr} {xs_UnknownPair xt_UnknownPair xu_UnknownPair : Array (Option Value)} {xa_UnknownPair xb_UnknownPair xc_UnknownPair xdc_UnknownPair xpm_UnknownPair xct_UnknownPair : Value} {xf_UnknownPair cc_UnknownPair cda_UnknownPair : Addr} {xe_UnknownPair : Option Addr} {vs_UnknownPair : Array Value} {cdx_UnknownPair : ClassData}
    {nm_UnknownPair q_UnknownPair : Str} {N_UnknownPair : Addr} {bs_UnknownPair bm_UnknownPair : List Value} {sn_UnknownPair : _} {sub_UnknownPair : _} {ab_UnknownPair : _} {col_UnknownPair : _} {dd_UnknownPair : _} {k0_UnknownPair : _} {k1_UnknownPair : _} {k2_UnknownPair : _} {k3_UnknownPair : _} {k5_UnknownPair : _}
    {fl_UnknownPair : Str} {tf_UnknownPair : _}
    {xo_UnknownPoint xd_UnknownPoint : Option Addr} {xs_UnknownPoint xt_UnknownPoint xu_UnknownPoint : Array (Option Value)} {xa_UnknownPoint xb_UnknownPoint xc_UnknownPoint xdc_UnknownPoint xpm_UnknownPoint xct_UnknownPoint : Value} {xf_UnknownPoint cc_UnknownPoint cda_UnknownPoint : Addr} {xe_UnknownPoint : Option Addr} {vs_UnknownPoint : Array Value} {cdx_UnknownPoint : ClassData}
    {nm_UnknownPoint q_UnknownPoint : Str} {N_UnknownPoint : Addr} {bs_UnknownPoint bm_UnknownPoint : List Value} {sn_UnknownPoint : _} {sub_UnknownPoint : _} {ab_UnknownPoint : _} {col_UnknownPoint : _} {dd_UnknownPoint : _} {k0_UnknownPoint : _} {k1_UnknownPoint : _} {k2_UnknownPoint : _} {k3_UnknownPoint : _} {k5_UnknownPoint : _}
    {fl_UnknownPoint : Str} {tf_UnknownPoint : _}
    {cdy_ComesapartError : ClassData}
    {cdy_UnknownPair : ClassData}
    (q0 : PySem.W.nsIn K mainGlobals "PairedWeb" = some (some (.ref C_PairedWeb)))
    (q1 : PySem.W.plainGet K C_PairedWeb Str.empty = true)
    (q2 : PySem.W.hasDictIn K C_PairedWeb = true)
    (q3 : PySem.W.plainOver K C_PairedWeb = true)
    (q4 : PySem.W.findIn K (.ref C_PairedWeb) "__setattr__" = some (some (.builtin "object.__setattr__")))
    (q5 : PySem.W.findIn K (.ref C_PairedWeb) "free" = some none)
    (q6 : PySem.W.findIn K (.ref C_PairedWeb) "pairs" = some none)
    (q7 : PySem.W.findIn K (.ref C_PairedWeb) "MOST_FREE" = some (some (.int 200 t_PairedWeb_MOST_FREE)))
    (q8 : PySem.W.specialIn K (.int 200 t_PairedWeb_MOST_FREE) "__get__" = some none)
    (q9 : PySem.W.findIn K (.ref C_PairedWeb) "MOST_PAIRS" = some (some (.int 100 t_PairedWeb_MOST_PAIRS)))
    (q10 : PySem.W.specialIn K (.int 100 t_PairedWeb_MOST_PAIRS) "__get__" = some none)
    (q11 : PySem.W.nsIn K mainGlobals "ComesapartError" = some (some (.ref D_ComesapartError)))
    (q12 : PySem.W.nsIn K mainGlobals "TooLarge" = some (some (.ref D_TooLarge)))
    (q13 : PySem.W.nsIn K mainGlobals "UnknownPair" = some (some (.ref D_UnknownPair)))
    (q14 : PySem.W.nsIn K mainGlobals "UnknownPoint" = some (some (.ref D_UnknownPoint)))
    (q15 : PySem.W.nsIn K mainGlobals "_law_cell" = some (some (.ref f0)))
    (q16 : K.lookup f0 = some ⟨oc0, od0, .func (PySem.W.fnOf "_law_cell" "_law_cell" (defArgs s_l_cell) (defBody s_l_cell) (defScope s_l_cell) .none kV0 dc0 pm0 an0 cd0 ct0), sl0⟩)
    (q17 : PySem.W.codeIn K cd0 "_law_cell" = true)
    (q18 : PySem.W.keepIn K (.ref f0) = true)
    (q19 : PySem.W.nsIn K mainGlobals "_law_draws" = some (some (.ref f1)))
    (q20 : K.lookup f1 = some ⟨oc1, od1, .func (PySem.W.fnOf "_law_draws" "_law_draws" (defArgs s_l_draws) (defBody s_l_draws) (defScope s_l_draws) .none kV1 dc1 pm1 an1 cd1 ct1), sl1⟩)
    (q21 : PySem.W.codeIn K cd1 "_law_draws" = true)
    (q22 : PySem.W.keepIn K (.ref f1) = true)
    (q23 : PySem.W.nsIn K mainGlobals "_law_pick" = some (some (.ref f2)))
    (q24 : K.lookup f2 = some ⟨oc2, od2, .func (PySem.W.fnOf "_law_pick" "_law_pick" (defArgs s_l_pick) (defBody s_l_pick) (defScope s_l_pick) .none kV2 dc2 pm2 an2 cd2 ct2), sl2⟩)
    (q25 : PySem.W.codeIn K cd2 "_law_pick" = true)
    (q26 : PySem.W.keepIn K (.ref f2) = true)
    (q27 : PySem.W.nsIn K mainGlobals "_law_only" = some (some (.ref f3)))
    (q28 : K.lookup f3 = some ⟨oc3, od3, .func (PySem.W.fnOf "_law_only" "_law_only" (defArgs s_l_only) (defBody s_l_only) (defScope s_l_only) .none kV3 dc3 pm3 an3 cd3 ct3), sl3⟩)
    (q29 : PySem.W.codeIn K cd3 "_law_only" = true)
    (q30 : PySem.W.keepIn K (.ref f3) = true)
    (q31 : PySem.W.nsIn K mainGlobals "_law_paired" = some (some (.ref f4)))
    (q32 : K.lookup f4 = some ⟨oc4, od4, .func (PySem.W.fnOf "_law_paired" "_law_paired" (defArgs s_l_paired) (defBody s_l_paired) (defScope s_l_paired) .none kV4 dc4 pm4 an4 cd4 ct4), sl4⟩)
    (q33 : PySem.W.codeIn K cd4 "_law_paired" = true)
    (q34 : PySem.W.keepIn K (.ref f4) = true)
    (q35 : PySem.W.nsIn K mainGlobals "_law_some" = some (some (.ref f5)))
    (q36 : K.lookup f5 = some ⟨oc5, od5, .func (PySem.W.fnOf "_law_some" "_law_some" (defArgs s_l_some) (defBody s_l_some) (defScope s_l_some) .none kV5 dc5 pm5 an5 cd5 ct5), sl5⟩)
    (q37 : PySem.W.codeIn K cd5 "_law_some" = true)
    (q38 : PySem.W.keepIn K (.ref f5) = true)
    (q39 : PySem.W.nsIn K mainGlobals "_law_bad" = some (some (.ref f6)))
    (q40 : K.lookup f6 = some ⟨oc6, od6, .func (PySem.W.fnOf "_law_bad" "_law_bad" (defArgs s_l_bad) (defBody s_l_bad) (defScope s_l_bad) .none kV6 dc6 pm6 an6 cd6 ct6), sl6⟩)
    (q41 : PySem.W.codeIn K cd6 "_law_bad" = true)
    (q42 : PySem.W.keepIn K (.ref f6) = true)
    (q43 : PySem.W.findIn K (.ref C_PairedWeb) "__init__" = some (some (.ref f7)))
    (q44 : PySem.W.isFn K (.ref f7) = true)
    (q45 : K.lookup f7 = some ⟨oc7, od7, .func (PySem.W.fnOf "__init__" "PairedWeb.__init__" (defArgs s_m_PairedWebX_initX) (defBody s_m_PairedWebX_initX) (defScope s_m_PairedWebX_initX) .none kV7 dc7 pm7 an7 cd7 ct7), sl7⟩)
    (q46 : PySem.W.codeIn K cd7 "PairedWeb.__init__" = true)
    (q47 : PySem.W.keepIn K (.ref f7) = true)
    (q48 : PySem.W.makesIn K C_PairedWeb = true)
    (q49 : PySem.W.keepIn K (.ref C_PairedWeb) = true)
    (q50 : PySem.W.nsIn K mainGlobals "_law_parts" = some (some (.ref f8)))
    (q51 : K.lookup f8 = some ⟨oc8, od8, .func (PySem.W.fnOf "_law_parts" "_law_parts" (defArgs s_l_parts) (defBody s_l_parts) (defScope s_l_parts) .none kV8 dc8 pm8 an8 cd8 ct8), sl8⟩)
    (q52 : PySem.W.codeIn K cd8 "_law_parts" = true)
    (q53 : PySem.W.keepIn K (.ref f8) = true)
    (q54 : PySem.W.nsIn K mainGlobals "_law_due" = some (some (.ref f9)))
    (q55 : K.lookup f9 = some ⟨oc9, od9, .func (PySem.W.fnOf "_law_due" "_law_due" (defArgs s_l_due) (defBody s_l_due) (defScope s_l_due) .none kV9 dc9 pm9 an9 cd9 ct9), sl9⟩)
    (q56 : PySem.W.codeIn K cd9 "_law_due" = true)
    (q57 : PySem.W.keepIn K (.ref f9) = true)
    (q58 : PySem.W.findIn K (.ref C_PairedWeb) "points" = some (some (.ref r10)))
    (q59 : PySem.W.specialIn K (.ref r10) "__get__" = some (some (.builtin "property.__get__")))
    (q60 : PySem.W.takesIn K (.ref r10) = some true)
    (q61 : PySem.W.recIn K r10 "property" = some (.ref f10 :: rest10))
    (q62 : K.lookup f10 = some ⟨oc10, od10, .func (PySem.W.fnOf "points" "PairedWeb.points" (defArgs s_m_PairedWeb_points) (defBody s_m_PairedWeb_points) (defScope s_m_PairedWeb_points) .none kV10 dc10 pm10 an10 cd10 ct10), sl10⟩)
    (q63 : PySem.W.codeIn K cd10 "PairedWeb.points" = true)
    (q64 : PySem.W.keepIn K (.ref f10) = true)
    (q65 : PySem.W.findIn K (.ref C_PairedWeb) "all_ties" = some (some (.ref r11)))
    (q66 : PySem.W.specialIn K (.ref r11) "__get__" = some (some (.builtin "property.__get__")))
    (q67 : PySem.W.takesIn K (.ref r11) = some true)
    (q68 : PySem.W.recIn K r11 "property" = some (.ref f11 :: rest11))
    (q69 : K.lookup f11 = some ⟨oc11, od11, .func (PySem.W.fnOf "all_ties" "PairedWeb.all_ties" (defArgs s_m_PairedWeb_all_ties) (defBody s_m_PairedWeb_all_ties) (defScope s_m_PairedWeb_all_ties) .none kV11 dc11 pm11 an11 cd11 ct11), sl11⟩)
    (q70 : PySem.W.codeIn K cd11 "PairedWeb.all_ties" = true)
    (q71 : PySem.W.keepIn K (.ref f11) = true)
    (q72 : PySem.W.nsIn K mainGlobals "grouped" = some (some (.ref f12)))
    (q73 : K.lookup f12 = some ⟨oc12, od12, .func (PySem.W.fnOf "grouped" "grouped" (defArgs s_p_grouped) (defBody s_p_grouped) (defScope s_p_grouped) .none kV12 dc12 pm12 an12 cd12 ct12), sl12⟩)
    (q74 : PySem.W.codeIn K cd12 "grouped" = true)
    (q75 : PySem.W.keepIn K (.ref f12) = true)
    (q76 : PySem.W.nsIn K mainGlobals "parts_points" = some (some (.ref f13)))
    (q77 : K.lookup f13 = some ⟨oc13, od13, .func (PySem.W.fnOf "parts_points" "parts_points" (defArgs s_p_parts_points) (defBody s_p_parts_points) (defScope s_p_parts_points) .none kV13 dc13 pm13 an13 cd13 ct13), sl13⟩)
    (q78 : PySem.W.codeIn K cd13 "parts_points" = true)
    (q79 : PySem.W.keepIn K (.ref f13) = true)
    (q80 : PySem.W.nsIn K mainGlobals "is_bridge" = some (some (.ref f14)))
    (q81 : K.lookup f14 = some ⟨oc14, od14, .func (PySem.W.fnOf "is_bridge" "is_bridge" (defArgs s_p_is_bridge) (defBody s_p_is_bridge) (defScope s_p_is_bridge) .none kV14 dc14 pm14 an14 cd14 ct14), sl14⟩)
    (q82 : PySem.W.codeIn K cd14 "is_bridge" = true)
    (q83 : PySem.W.keepIn K (.ref f14) = true)
    (q84 : PySem.W.nsIn K mainGlobals "_law_told" = some (some (.ref f15)))
    (q85 : K.lookup f15 = some ⟨oc15, od15, .func (PySem.W.fnOf "_law_told" "_law_told" (defArgs s_l_told) (defBody s_l_told) (defScope s_l_told) .none kV15 dc15 pm15 an15 cd15 ct15), sl15⟩)
    (q86 : PySem.W.codeIn K cd15 "_law_told" = true)
    (q87 : PySem.W.keepIn K (.ref f15) = true)
    (q88 : PySem.W.nsIn K mainGlobals "_law_right" = some (some (.ref f16)))
    (q89 : K.lookup f16 = some ⟨oc16, od16, .func (PySem.W.fnOf "_law_right" "_law_right" (defArgs s_l_right) (defBody s_l_right) (defScope s_l_right) .none kV16 dc16 pm16 an16 cd16 ct16), sl16⟩)
    (q90 : PySem.W.codeIn K cd16 "_law_right" = true)
    (q91 : PySem.W.keepIn K (.ref f16) = true)
    (q92 : PySem.W.nsIn K mainGlobals "law" = some (some (.ref f17)))
    (q93 : K.lookup f17 = some ⟨oc17, od17, .func (PySem.W.fnOf "law" "law" (defArgs s_law) (defBody s_law) (defScope s_law) .none kV17 dc17 pm17 an17 cd17 ct17), sl17⟩)
    (q94 : PySem.W.codeIn K cd17 "law" = true)
    (q95 : PySem.W.keepIn K (.ref f17) = true)
    (q96 : PySem.W.nsIn K mainGlobals "super" = some none)
    (q97 : PySem.W.nsIn K PySem.cStatics "thirdparty.any" = some none)
    (q98 : K.lookup D_TooLarge = some (excClassObj nm_TooLarge q_TooLarge D_TooLarge N_TooLarge bs_TooLarge bm_TooLarge true sn_TooLarge sub_TooLarge ab_TooLarge col_TooLarge dd_TooLarge k0_TooLarge k1_TooLarge k2_TooLarge k3_TooLarge k5_TooLarge "ValueError.__new__"))
    (q99 : PySem.HandSPX.refsVE bm_TooLarge = true)
    (q100 : PySem.W.findIn K (.ref D_TooLarge) "__setattr__" = some (some (.builtin "object.__setattr__")))
    (q101 : PySem.W.subIn K (.ref D_TooLarge) (.type "BaseException") = some true)
    (q102 : PySem.W.typeIn K (.ref D_TooLarge) = some (.type "type"))
    (q103 : PySem.W.keepIn K (.ref D_TooLarge) = true)
    (q104 : PySem.W.clsIn K D_TooLarge = some cdx_TooLarge)
    (q105 : PySem.W.mroIn K D_TooLarge (.ref D_TooLarge) = some true)
    (q106 : PySem.W.ks_superIn K D_TooLarge D_TooLarge "__init__" = some (some (.builtin "ValueError.__init__")))
    (q107 : PySem.W.subIn K (.ref D_TooLarge) (.type "ValueError") = some true)
    (q108 : PySem.W.findIn K (.ref D_TooLarge) "__init__" = some (some (.ref xf_TooLarge)))
    (q109 : PySem.W.typeIn K (.ref xf_TooLarge) = some (.type "function"))
    (q110 : K.lookup xf_TooLarge = some ⟨xa_TooLarge, xo_TooLarge, .func ((initNF "__init__" "TooLarge.__init__" ((clsB (topS 3)).getD 0 (.Pass ⟨0, 0, 0, 0⟩)) cc_TooLarge cda_TooLarge).fd xdc_TooLarge xpm_TooLarge xct_TooLarge), xs_TooLarge⟩)
    (q111 : K.lookup cc_TooLarge = some ⟨xb_TooLarge, xd_TooLarge, .cell (some (.ref D_TooLarge)), xt_TooLarge⟩)
    (q112 : K.lookup cda_TooLarge = some ⟨xc_TooLarge, xe_TooLarge, .fields vs_TooLarge, xu_TooLarge⟩)
    (q113 : PySem.W.codeIn K (.ref cda_TooLarge) "TooLarge.__init__" = true)
    (q114 : vs_TooLarge[2]? = some (.str fl_TooLarge tf_TooLarge))
    (q115 : ((PySem.Challenge.rw_comesapart_k27_bridges_by_definition.prog.main.file : Str) == fl_TooLarge) = true)
    (q116 : PySem.W.findIn K (.ref D_TooLarge) "limit" = some none)
    (q117 : K.lookup D_UnknownPair = some (excClassObj nm_UnknownPair q_UnknownPair D_UnknownPair N_UnknownPair bs_UnknownPair bm_UnknownPair true sn_UnknownPair sub_UnknownPair ab_UnknownPair col_UnknownPair dd_UnknownPair k0_UnknownPair k1_UnknownPair k2_UnknownPair k3_UnknownPair k5_UnknownPair "ValueError.__new__"))
    (q118 : PySem.HandSPX.refsVE bm_UnknownPair = true)
    (q119 : PySem.W.findIn K (.ref D_UnknownPair) "__setattr__" = some (some (.builtin "object.__setattr__")))
    (q120 : PySem.W.subIn K (.ref D_UnknownPair) (.type "BaseException") = some true)
    (q121 : PySem.W.typeIn K (.ref D_UnknownPair) = some (.type "type"))
    (q122 : PySem.W.keepIn K (.ref D_UnknownPair) = true)
    (q123 : PySem.W.clsIn K D_UnknownPair = some cdx_UnknownPair)
    (q124 : PySem.W.mroIn K D_UnknownPair (.ref D_UnknownPair) = some true)
    (q125 : PySem.W.ks_superIn K D_UnknownPair D_UnknownPair "__init__" = some (some (.builtin "ValueError.__init__")))
    (q126 : PySem.W.subIn K (.ref D_UnknownPair) (.type "ValueError") = some true)
    (q127 : PySem.W.findIn K (.ref D_UnknownPair) "__init__" = some (some (.ref xf_UnknownPair)))
    (q128 : PySem.W.typeIn K (.ref xf_UnknownPair) = some (.type "function"))
    (q129 : K.lookup xf_UnknownPair = some ⟨xa_UnknownPair, xo_UnknownPair, .func ((initNF "__init__" "UnknownPair.__init__" ((clsB (topS 5)).getD 0 (.Pass ⟨0, 0, 0, 0⟩)) cc_UnknownPair cda_UnknownPair).fd xdc_UnknownPair xpm_UnknownPair xct_UnknownPair), xs_UnknownPair⟩)
    (q130 : K.lookup cc_UnknownPair = some ⟨xb_UnknownPair, xd_UnknownPair, .cell (some (.ref D_UnknownPair)), xt_UnknownPair⟩)
    (q131 : K.lookup cda_UnknownPair = some ⟨xc_UnknownPair, xe_UnknownPair, .fields vs_UnknownPair, xu_UnknownPair⟩)
    (q132 : PySem.W.codeIn K (.ref cda_UnknownPair) "UnknownPair.__init__" = true)
    (q133 : vs_UnknownPair[2]? = some (.str fl_UnknownPair tf_UnknownPair))
    (q134 : ((PySem.Challenge.rw_comesapart_k27_bridges_by_definition.prog.main.file : Str) == fl_UnknownPair) = true)
    (q135 : PySem.W.findIn K (.ref D_UnknownPair) "pair" = some none)
    (q136 : K.lookup D_UnknownPoint = some (excClassObj nm_UnknownPoint q_UnknownPoint D_UnknownPoint N_UnknownPoint bs_UnknownPoint bm_UnknownPoint true sn_UnknownPoint sub_UnknownPoint ab_UnknownPoint col_UnknownPoint dd_UnknownPoint k0_UnknownPoint k1_UnknownPoint k2_UnknownPoint k3_UnknownPoint k5_UnknownPoint "ValueError.__new__"))
    (q137 : PySem.HandSPX.refsVE bm_UnknownPoint = true)
    (q138 : PySem.W.findIn K (.ref D_UnknownPoint) "__setattr__" = some (some (.builtin "object.__setattr__")))
    (q139 : PySem.W.subIn K (.ref D_UnknownPoint) (.type "BaseException") = some true)
    (q140 : PySem.W.typeIn K (.ref D_UnknownPoint) = some (.type "type"))
    (q141 : PySem.W.keepIn K (.ref D_UnknownPoint) = true)
    (q142 : PySem.W.clsIn K D_UnknownPoint = some cdx_UnknownPoint)
    (q143 : PySem.W.mroIn K D_UnknownPoint (.ref D_UnknownPoint) = some true)
    (q144 : PySem.W.ks_superIn K D_UnknownPoint D_UnknownPoint "__init__" = some (some (.builtin "ValueError.__init__")))
    (q145 : PySem.W.subIn K (.ref D_UnknownPoint) (.type "ValueError") = some true)
    (q146 : PySem.W.findIn K (.ref D_UnknownPoint) "__init__" = some (some (.ref xf_UnknownPoint)))
    (q147 : PySem.W.typeIn K (.ref xf_UnknownPoint) = some (.type "function"))
    (q148 : K.lookup xf_UnknownPoint = some ⟨xa_UnknownPoint, xo_UnknownPoint, .func ((initNF "__init__" "UnknownPoint.__init__" ((clsB (topS 4)).getD 0 (.Pass ⟨0, 0, 0, 0⟩)) cc_UnknownPoint cda_UnknownPoint).fd xdc_UnknownPoint xpm_UnknownPoint xct_UnknownPoint), xs_UnknownPoint⟩)
    (q149 : K.lookup cc_UnknownPoint = some ⟨xb_UnknownPoint, xd_UnknownPoint, .cell (some (.ref D_UnknownPoint)), xt_UnknownPoint⟩)
    (q150 : K.lookup cda_UnknownPoint = some ⟨xc_UnknownPoint, xe_UnknownPoint, .fields vs_UnknownPoint, xu_UnknownPoint⟩)
    (q151 : PySem.W.codeIn K (.ref cda_UnknownPoint) "UnknownPoint.__init__" = true)
    (q152 : vs_UnknownPoint[2]? = some (.str fl_UnknownPoint tf_UnknownPoint))
    (q153 : ((PySem.Challenge.rw_comesapart_k27_bridges_by_definition.prog.main.file : Str) == fl_UnknownPoint) = true)
    (q154 : PySem.W.findIn K (.ref D_UnknownPoint) "point" = some none)
    (q155 : PySem.W.findIn K (.ref D_UnknownPair) "pair" = some none)
    (q156 : PySem.W.findIn K (.ref D_UnknownPair) "__getattribute__" = some (some (.builtin "BaseException.__getattribute__")))
    (q157 : PySem.W.findIn K (.ref D_UnknownPair) "__getattr__" = some none)
    (q158 : PySem.W.subIn K (.ref D_UnknownPair) (.type "BaseException") = some true)
    (q159 : PySem.W.hasDictIn K D_UnknownPair = true)
    (q160 : PySem.W.specialIn K (.builtin "object.__class__") "__get__" = some (some (.builtin "getset_descriptor.__get__")))
    (q161 : PySem.W.takesIn K (.builtin "object.__class__") = some true)
    (q162 : PySem.W.findIn K (.ref D_TooLarge) "__getattribute__" = some (some (.builtin "BaseException.__getattribute__")))
    (q163 : PySem.W.findIn K (.ref D_TooLarge) "__getattr__" = some none)
    (q164 : PySem.W.subIn K (.ref D_TooLarge) (.type "BaseException") = some true)
    (q165 : PySem.W.hasDictIn K D_TooLarge = true)
    (q166 : PySem.W.findIn K (.ref D_TooLarge) "__class__" = some (some (.builtin "object.__class__")))
    (q167 : PySem.W.mroIn K D_TooLarge (.type "object") = some true)
    (q168 : PySem.W.findIn K (.ref D_UnknownPair) "__getattribute__" = some (some (.builtin "BaseException.__getattribute__")))
    (q169 : PySem.W.findIn K (.ref D_UnknownPair) "__getattr__" = some none)
    (q170 : PySem.W.subIn K (.ref D_UnknownPair) (.type "BaseException") = some true)
    (q171 : PySem.W.hasDictIn K D_UnknownPair = true)
    (q172 : PySem.W.findIn K (.ref D_UnknownPair) "__class__" = some (some (.builtin "object.__class__")))
    (q173 : PySem.W.mroIn K D_UnknownPair (.type "object") = some true)
    (q174 : PySem.W.findIn K (.ref D_UnknownPoint) "__getattribute__" = some (some (.builtin "BaseException.__getattribute__")))
    (q175 : PySem.W.findIn K (.ref D_UnknownPoint) "__getattr__" = some none)
    (q176 : PySem.W.subIn K (.ref D_UnknownPoint) (.type "BaseException") = some true)
    (q177 : PySem.W.hasDictIn K D_UnknownPoint = true)
    (q178 : PySem.W.findIn K (.ref D_UnknownPoint) "__class__" = some (some (.builtin "object.__class__")))
    (q179 : PySem.W.mroIn K D_UnknownPoint (.type "object") = some true)
    (q180 : PySem.W.clsIn K D_ComesapartError = some cdy_ComesapartError)
    (q181 : PySem.W.typeIn K (.ref D_ComesapartError) = some (.type "type"))
    (q182 : PySem.W.clsIn K D_UnknownPair = some cdy_UnknownPair)
    (q183 : PySem.W.typeIn K (.ref D_UnknownPair) = some (.type "type"))
    (q184 : PySem.W.subIn K (.ref D_TooLarge) (.ref D_ComesapartError) = some true)
    (q185 : PySem.W.subIn K (.ref D_TooLarge) (.ref D_UnknownPair) = some false)
    (q186 : PySem.W.subIn K (.ref D_UnknownPair) (.ref D_ComesapartError) = some true)
    (q187 : PySem.W.subIn K (.ref D_UnknownPair) (.ref D_UnknownPair) = some true)
    (q188 : PySem.W.subIn K (.ref D_UnknownPoint) (.ref D_ComesapartError) = some true)
    (q189 : PySem.W.subIn K (.ref D_UnknownPoint) (.ref D_UnknownPair) = some false)
    (q190 : PySem.W.subIn K (.ref D_ComesapartError) (.type "BaseException") = some true)
    (q191 : D_TooLarge ≠ D_UnknownPair)
    (q192 : D_UnknownPoint ≠ D_UnknownPair)
    (q193 : PySem.W.subIn K (.ref D_TooLarge) (.type "ValueError") = some true)
    (q194 : PySem.W.subIn K (.ref D_UnknownPair) (.type "ValueError") = some true)
    (q195 : PySem.W.subIn K (.ref D_UnknownPoint) (.type "ValueError") = some true)
    (q196 : PySem.W.nsIn K mainGlobals "ValueError" = some none)
    (q197 : PySem.W.nsIn K mainGlobals "abs" = some none)
    (q198 : PySem.W.nsIn K mainGlobals "any" = some none)
    (q199 : PySem.W.nsIn K mainGlobals "bool" = some none)
    (q200 : PySem.W.nsIn K mainGlobals "enumerate" = some none)
    (q201 : PySem.W.nsIn K mainGlobals "int" = some none)
    (q202 : PySem.W.nsIn K mainGlobals "isinstance" = some none)
    (q203 : PySem.W.nsIn K mainGlobals "len" = some none)
    (q204 : PySem.W.nsIn K mainGlobals "list" = some none)
    (q205 : PySem.W.nsIn K mainGlobals "range" = some none)
    (q206 : PySem.W.nsIn K mainGlobals "set" = some none)
    (q207 : PySem.W.nsIn K mainGlobals "sorted" = some none)
    (q208 : PySem.W.nsIn K mainGlobals "tuple" = some none)
    : ∃ fd : FuncData, (∀ (s : Shared) (v : Value), BindsTo s fd ⟨[v], []⟩ [("_law_script", v)]) ∧ ∀ base : Heap, K.In base → base.Ns mainGlobals mg → FnOk PySem.Challenge.rw_comesapart_k27_bridges_by_definition.prog w K mg base CX0 7 fa fd ["_law_script"] (sp_law ⟨PySem.Challenge.rw_comesapart_k27_bridges_by_definition.prog, w, K⟩) := by
  have e := hfa.symm.trans (PySem.W.mg_of X G q92)
  cases e
  have F0 := fun_mk (st := s_l_cell) q16 q17 q18
  have d0 := F0.binds (ps := ["_law_script", "_law_k"]) fun _ _ _ _ _ _ us hl => match us, hl with | [_, _], _ => rfl
  have F1 := fun_mk (st := s_l_draws) q20 q21 q22
  have d1 := F1.binds (ps := ["_law_cell_here", "_law_many"]) fun _ _ _ _ _ _ us hl => match us, hl with | [_, _], _ => rfl
  have F2 := fun_mk (st := s_l_pick) q24 q25 q26
  have d2 := F2.binds (ps := ["_law_draws_here", "_law_k", "_law_many"]) fun _ _ _ _ _ _ us hl => match us, hl with | [_, _, _], _ => rfl
  have F3 := fun_mk (st := s_l_only) q28 q29 q30
  have d3 := F3.binds (ps := ["_law_draws_here", "_law_most_pairs", "_law_most_free"]) fun _ _ _ _ _ _ us hl => match us, hl with | [_, _, _], _ => rfl
  have F4 := fun_mk (st := s_l_paired) q32 q33 q34
  have d4 := F4.binds (ps := ["_law_draws_here", "_law_most_pairs", "_law_most_free"]) fun _ _ _ _ _ _ us hl => match us, hl with | [_, _, _], _ => rfl
  have F5 := fun_mk (st := s_l_some) q36 q37 q38
  have d5 := F5.binds (ps := ["_law_draws_here", "_law_at", "_law_items", "_law_share"]) fun _ _ _ _ _ _ us hl => match us, hl with | [_, _, _, _], _ => rfl
  have F6 := fun_mk (st := s_l_bad) q40 q41 q42
  have d6 := F6.binds (ps := ["_law_draws_here", "_law_at", "_law_taken", "_law_many"]) fun _ _ _ _ _ _ us hl => match us, hl with | [_, _, _, _], _ => rfl
  have F7 := fun_mk (st := s_m_PairedWebX_initX) q45 q46 q47
  have d7 := F7.binds (ps := ["self", "pairs", "free"]) fun _ _ _ _ _ _ us hl => match us, hl with | [_, _, _], _ => rfl
  have F8 := fun_mk (st := s_l_parts) q51 q52 q53
  have d8 := F8.binds (ps := ["_law_many", "_law_free", "_law_taken", "_law_pair"]) fun _ _ _ _ _ _ us hl => match us, hl with | [_, _, _, _], _ => rfl
  have F9 := fun_mk (st := s_l_due) q55 q56 q57
  have d9 := F9.binds (ps := ["_law_many", "_law_free", "_law_taken", "_law_pair"]) fun _ _ _ _ _ _ us hl => match us, hl with | [_, _, _, _], _ => rfl
  have F10 := fun_mk (st := s_m_PairedWeb_points) q62 q63 q64
  have d10 := F10.binds (ps := ["self"]) fun _ _ _ _ _ _ us hl => match us, hl with | [_], _ => rfl
  have F11 := fun_mk (st := s_m_PairedWeb_all_ties) q69 q70 q71
  have d11 := F11.binds (ps := ["self"]) fun _ _ _ _ _ _ us hl => match us, hl with | [_], _ => rfl
  have F12 := fun_mk (st := s_p_grouped) q73 q74 q75
  have d12 := F12.binds (ps := ["points", "ties"]) fun _ _ _ _ _ _ us hl => match us, hl with | [_, _], _ => rfl
  have F13 := fun_mk (st := s_p_parts_points) q77 q78 q79
  have d13 := F13.binds (ps := ["paired", "taken", "pair"]) fun _ _ _ _ _ _ us hl => match us, hl with | [_, _, _], _ => rfl
  have F14 := fun_mk (st := s_p_is_bridge) q81 q82 q83
  have d14 := F14.binds (ps := ["paired", "taken", "pair"]) fun _ _ _ _ _ _ us hl => match us, hl with | [_, _, _], _ => rfl
  have F15 := fun_mk (st := s_l_told) q85 q86 q87
  have d15 := F15.binds (ps := ["_law_paired_here", "_law_taken", "_law_pair"]) fun _ _ _ _ _ _ us hl => match us, hl with | [_, _, _], _ => rfl
  have F16 := fun_mk (st := s_l_right) q89 q90 q91
  have d16 := F16.binds (ps := ["_law_many", "_law_free", "_law_taken", "_law_pairs"]) fun _ _ _ _ _ _ us hl => match us, hl with | [_, _, _, _], _ => rfl
  have F17 := fun_mk (st := s_law) q93 q94 q95
  have d17 := F17.binds (ps := ["_law_script"]) fun _ _ _ _ _ _ us hl => match us, hl with | [_], _ => rfl
  let T : Txt K mg := {
    A := ⟨fun c => match c with | .ComesapartError => D_ComesapartError | .TooLarge => D_TooLarge | .UnknownPair => D_UnknownPair | .UnknownPoint => D_UnknownPoint | _ => 0, fun c => match c with | .PairedWeb => C_PairedWeb | _ => 0⟩
    g_PairedWeb := PySem.W.mg_of X G q0
    c_PairedWeb := ⟨q1, q2, q3, q4⟩
    n_PairedWeb_free := q5
    n_PairedWeb_pairs := q6
    u_PairedWeb_MOST_FREE := _
    k_PairedWeb_MOST_FREE := ⟨q7, ⟨_, rfl⟩, q8, by decide +kernel⟩
    u_PairedWeb_MOST_PAIRS := _
    k_PairedWeb_MOST_PAIRS := ⟨q9, ⟨_, rfl⟩, q10, by decide +kernel⟩
    g_ComesapartError := PySem.W.mg_of X G q11
    g_TooLarge := PySem.W.mg_of X G q12
    g_UnknownPair := PySem.W.mg_of X G q13
    g_UnknownPoint := PySem.W.mg_of X G q14
    g_l_cell := PySem.W.mg_of X G q15
    a_l_cell := _
    f_l_cell := _
    F_l_cell := F0
    d_l_cell := d0
    g_l_draws := PySem.W.mg_of X G q19
    a_l_draws := _
    f_l_draws := _
    F_l_draws := F1
    d_l_draws := d1
    g_l_pick := PySem.W.mg_of X G q23
    a_l_pick := _
    f_l_pick := _
    F_l_pick := F2
    d_l_pick := d2
    g_l_only := PySem.W.mg_of X G q27
    a_l_only := _
    f_l_only := _
    F_l_only := F3
    d_l_only := d3
    g_l_paired := PySem.W.mg_of X G q31
    a_l_paired := _
    f_l_paired := _
    F_l_paired := F4
    d_l_paired := d4
    g_l_some := PySem.W.mg_of X G q35
    a_l_some := _
    f_l_some := _
    F_l_some := F5
    d_l_some := d5
    g_l_bad := PySem.W.mg_of X G q39
    a_l_bad := _
    f_l_bad := _
    F_l_bad := F6
    d_l_bad := d6
    a_m_PairedWebX_initX := _
    f_m_PairedWebX_initX := _
    F_m_PairedWebX_initX := F7
    d_m_PairedWebX_initX := d7
    mk_PairedWeb := ⟨q48, q43, q44, q49⟩
    g_l_parts := PySem.W.mg_of X G q50
    a_l_parts := _
    f_l_parts := _
    F_l_parts := F8
    d_l_parts := d8
    g_l_due := PySem.W.mg_of X G q54
    a_l_due := _
    f_l_due := _
    F_l_due := F9
    d_l_due := d9
    a_m_PairedWeb_points := _
    f_m_PairedWeb_points := _
    F_m_PairedWeb_points := F10
    d_m_PairedWeb_points := d10
    q_m_PairedWeb_points := _
    p_m_PairedWeb_points := ⟨q58, q59, q60, ⟨_, q61⟩⟩
    a_m_PairedWeb_all_ties := _
    f_m_PairedWeb_all_ties := _
    F_m_PairedWeb_all_ties := F11
    d_m_PairedWeb_all_ties := d11
    q_m_PairedWeb_all_ties := _
    p_m_PairedWeb_all_ties := ⟨q65, q66, q67, ⟨_, q68⟩⟩
    g_p_grouped := PySem.W.mg_of X G q72
    a_p_grouped := _
    f_p_grouped := _
    F_p_grouped := F12
    d_p_grouped := d12
    g_p_parts_points := PySem.W.mg_of X G q76
    a_p_parts_points := _
    f_p_parts_points := _
    F_p_parts_points := F13
    d_p_parts_points := d13
    g_p_is_bridge := PySem.W.mg_of X G q80
    a_p_is_bridge := _
    f_p_is_bridge := _
    F_p_is_bridge := F14
    d_p_is_bridge := d14
    g_l_told := PySem.W.mg_of X G q84
    a_l_told := _
    f_l_told := _
    F_l_told := F15
    d_l_told := d15
    g_l_right := PySem.W.mg_of X G q88
    a_l_right := _
    f_l_right := _
    F_l_right := F16
    d_l_right := d16
    g_law := PySem.W.mg_of X G q92
    a_law := _
    f_law := _
    F_law := F17
    d_law := d17
    i_TooLarge := xf_TooLarge
    fx_TooLarge := (initNF "__init__" "TooLarge.__init__" ((clsB (topS 3)).getD 0 (.Pass ⟨0, 0, 0, 0⟩)) cc_TooLarge cda_TooLarge).fd xdc_TooLarge xpm_TooLarge xct_TooLarge
    x_TooLarge := ⟨⟨⟨_, _, _, _, _, _, _, _, _, _, _, _, _, _, _, q98, q99⟩, q100, q101, q102, q103⟩, ⟨_, q104⟩, q105, q106, q107, q108, q109⟩
    dx_TooLarge := fun s us _ hl => BindsTo.of_eq (match us, hl with | [_, _], _ => rfl)
    i_UnknownPair := xf_UnknownPair
    fx_UnknownPair := (initNF "__init__" "UnknownPair.__init__" ((clsB (topS 5)).getD 0 (.Pass ⟨0, 0, 0, 0⟩)) cc_UnknownPair cda_UnknownPair).fd xdc_UnknownPair xpm_UnknownPair xct_UnknownPair
    x_UnknownPair := ⟨⟨⟨_, _, _, _, _, _, _, _, _, _, _, _, _, _, _, q117, q118⟩, q119, q120, q121, q122⟩, ⟨_, q123⟩, q124, q125, q126, q127, q128⟩
    dx_UnknownPair := fun s us _ hl => BindsTo.of_eq (match us, hl with | [_, _], _ => rfl)
    i_UnknownPoint := xf_UnknownPoint
    fx_UnknownPoint := (initNF "__init__" "UnknownPoint.__init__" ((clsB (topS 4)).getD 0 (.Pass ⟨0, 0, 0, 0⟩)) cc_UnknownPoint cda_UnknownPoint).fd xdc_UnknownPoint xpm_UnknownPoint xct_UnknownPoint
    x_UnknownPoint := ⟨⟨⟨_, _, _, _, _, _, _, _, _, _, _, _, _, _, _, q136, q137⟩, q138, q139, q140, q141⟩, ⟨_, q142⟩, q143, q144, q145, q146, q147⟩
    dx_UnknownPoint := fun s us _ hl => BindsTo.of_eq (match us, hl with | [_, _], _ => rfl)
    no_UnknownPair_pair := q155
    xf_UnknownPair := ⟨q156, q157, q158, q159⟩
    exc := fun c hc => by
      revert hc
      cases c with
      | NotAPairing => exact fun h => absurd h (by decide)
      | NothingToUndo => exact fun h => absurd h (by decide)
      | NothingToRedo => exact fun h => absurd h (by decide)
      | BadLabel => exact fun h => absurd h (by decide)
      | NameTaken => exact fun h => absurd h (by decide)
      | NoSuchName => exact fun h => absurd h (by decide)
      | StillTied => exact fun h => absurd h (by decide)
      | ComesapartError => exact fun h => absurd h (by decide)
      | TooLarge => exact fun _ => ⟨q162, q163, q164, q165, q166, q160, q161, q167⟩
      | BadLine => exact fun h => absurd h (by decide)
      | UnknownPlace => exact fun h => absurd h (by decide)
      | BadSides => exact fun h => absurd h (by decide)
      | UnknownSide => exact fun h => absurd h (by decide)
      | UnknownTie => exact fun h => absurd h (by decide)
      | BadStep => exact fun h => absurd h (by decide)
      | Repeated => exact fun h => absurd h (by decide)
      | NotATurningCycle => exact fun h => absurd h (by decide)
      | UnknownPoint => exact fun _ => ⟨q174, q175, q176, q177, q178, q160, q161, q179⟩
      | UnknownPair => exact fun _ => ⟨q168, q169, q170, q171, q172, q160, q161, q173⟩
      | SamePoint => exact fun h => absurd h (by decide)
      | NoLinks => exact fun h => absurd h (by decide)
      | BadLink => exact fun h => absurd h (by decide)
      | BadNode => exact fun h => absurd h (by decide)
      | UnknownTerm => exact fun h => absurd h (by decide)
      | NotSameSteps => exact fun h => absurd h (by decide)
      | NoFacing => exact fun h => absurd h (by decide)
      | NotARing => exact fun h => absurd h (by decide)
      | NotAJoint => exact fun h => absurd h (by decide)
      | NotShut => exact fun h => absurd h (by decide)
      | BadCut => exact fun h => absurd h (by decide)
      | NoSuchCut => exact fun h => absurd h (by decide)
      | Locked => exact fun h => absurd h (by decide)
      | Nothing => exact fun h => absurd h (by decide)
      | BadName => exact fun h => absurd h (by decide)
      | BadSign => exact fun h => absurd h (by decide)
      | BadMove => exact fun h => absurd h (by decide)
      | NoTerm => exact fun h => absurd h (by decide)
      | NeverOpened => exact fun h => absurd h (by decide)
      | BoundTwice => exact fun h => absurd h (by decide)
      | UnknownName => exact fun h => absurd h (by decide)
      | UsedTwice => exact fun h => absurd h (by decide)
      | NotUsed => exact fun h => absurd h (by decide)
      | NotARedex => exact fun h => absurd h (by decide)
      | NotBalanced => exact fun h => absurd h (by decide)
      | NotAnArrow => exact fun h => absurd h (by decide)
      | NotAPermutation => exact fun h => absurd h (by decide)
      | BadSetting => exact fun h => absurd h (by decide)
      | BadSigns => exact fun h => absurd h (by decide)
      | BadChoice => exact fun h => absurd h (by decide)
      | NotOuter => exact fun h => absurd h (by decide)
    hx_ComesapartError := fun c hc => by
      revert hc
      cases c with
      | NotAPairing => exact fun h => absurd h (by decide)
      | NothingToUndo => exact fun h => absurd h (by decide)
      | NothingToRedo => exact fun h => absurd h (by decide)
      | BadLabel => exact fun h => absurd h (by decide)
      | NameTaken => exact fun h => absurd h (by decide)
      | NoSuchName => exact fun h => absurd h (by decide)
      | StillTied => exact fun h => absurd h (by decide)
      | ComesapartError => exact fun h => absurd h (by decide)
      | TooLarge => exact fun _ => exm_ref q190 q180 q181 q184
      | BadLine => exact fun h => absurd h (by decide)
      | UnknownPlace => exact fun h => absurd h (by decide)
      | BadSides => exact fun h => absurd h (by decide)
      | UnknownSide => exact fun h => absurd h (by decide)
      | UnknownTie => exact fun h => absurd h (by decide)
      | BadStep => exact fun h => absurd h (by decide)
      | Repeated => exact fun h => absurd h (by decide)
      | NotATurningCycle => exact fun h => absurd h (by decide)
      | UnknownPoint => exact fun _ => exm_ref q190 q180 q181 q188
      | UnknownPair => exact fun _ => exm_ref q190 q180 q181 q186
      | SamePoint => exact fun h => absurd h (by decide)
      | NoLinks => exact fun h => absurd h (by decide)
      | BadLink => exact fun h => absurd h (by decide)
      | BadNode => exact fun h => absurd h (by decide)
      | UnknownTerm => exact fun h => absurd h (by decide)
      | NotSameSteps => exact fun h => absurd h (by decide)
      | NoFacing => exact fun h => absurd h (by decide)
      | NotARing => exact fun h => absurd h (by decide)
      | NotAJoint => exact fun h => absurd h (by decide)
      | NotShut => exact fun h => absurd h (by decide)
      | BadCut => exact fun h => absurd h (by decide)
      | NoSuchCut => exact fun h => absurd h (by decide)
      | Locked => exact fun h => absurd h (by decide)
      | Nothing => exact fun h => absurd h (by decide)
      | BadName => exact fun h => absurd h (by decide)
      | BadSign => exact fun h => absurd h (by decide)
      | BadMove => exact fun h => absurd h (by decide)
      | NoTerm => exact fun h => absurd h (by decide)
      | NeverOpened => exact fun h => absurd h (by decide)
      | BoundTwice => exact fun h => absurd h (by decide)
      | UnknownName => exact fun h => absurd h (by decide)
      | UsedTwice => exact fun h => absurd h (by decide)
      | NotUsed => exact fun h => absurd h (by decide)
      | NotARedex => exact fun h => absurd h (by decide)
      | NotBalanced => exact fun h => absurd h (by decide)
      | NotAnArrow => exact fun h => absurd h (by decide)
      | NotAPermutation => exact fun h => absurd h (by decide)
      | BadSetting => exact fun h => absurd h (by decide)
      | BadSigns => exact fun h => absurd h (by decide)
      | BadChoice => exact fun h => absurd h (by decide)
      | NotOuter => exact fun h => absurd h (by decide)
    kx_UnknownPair := fun c hc => by
      revert hc
      cases c with
      | NotAPairing => exact fun h => absurd h (by decide)
      | NothingToUndo => exact fun h => absurd h (by decide)
      | NothingToRedo => exact fun h => absurd h (by decide)
      | BadLabel => exact fun h => absurd h (by decide)
      | NameTaken => exact fun h => absurd h (by decide)
      | NoSuchName => exact fun h => absurd h (by decide)
      | StillTied => exact fun h => absurd h (by decide)
      | ComesapartError => exact fun h => absurd h (by decide)
      | TooLarge => exact fun _ => kit_refF q191 q182 q183 q185
      | BadLine => exact fun h => absurd h (by decide)
      | UnknownPlace => exact fun h => absurd h (by decide)
      | BadSides => exact fun h => absurd h (by decide)
      | UnknownSide => exact fun h => absurd h (by decide)
      | UnknownTie => exact fun h => absurd h (by decide)
      | BadStep => exact fun h => absurd h (by decide)
      | Repeated => exact fun h => absurd h (by decide)
      | NotATurningCycle => exact fun h => absurd h (by decide)
      | UnknownPoint => exact fun _ => kit_refF q192 q182 q183 q189
      | UnknownPair => exact fun _ => kit_refT q182 q183 q187
      | SamePoint => exact fun h => absurd h (by decide)
      | NoLinks => exact fun h => absurd h (by decide)
      | BadLink => exact fun h => absurd h (by decide)
      | BadNode => exact fun h => absurd h (by decide)
      | UnknownTerm => exact fun h => absurd h (by decide)
      | NotSameSteps => exact fun h => absurd h (by decide)
      | NoFacing => exact fun h => absurd h (by decide)
      | NotARing => exact fun h => absurd h (by decide)
      | NotAJoint => exact fun h => absurd h (by decide)
      | NotShut => exact fun h => absurd h (by decide)
      | BadCut => exact fun h => absurd h (by decide)
      | NoSuchCut => exact fun h => absurd h (by decide)
      | Locked => exact fun h => absurd h (by decide)
      | Nothing => exact fun h => absurd h (by decide)
      | BadName => exact fun h => absurd h (by decide)
      | BadSign => exact fun h => absurd h (by decide)
      | BadMove => exact fun h => absurd h (by decide)
      | NoTerm => exact fun h => absurd h (by decide)
      | NeverOpened => exact fun h => absurd h (by decide)
      | BoundTwice => exact fun h => absurd h (by decide)
      | UnknownName => exact fun h => absurd h (by decide)
      | UsedTwice => exact fun h => absurd h (by decide)
      | NotUsed => exact fun h => absurd h (by decide)
      | NotARedex => exact fun h => absurd h (by decide)
      | NotBalanced => exact fun h => absurd h (by decide)
      | NotAnArrow => exact fun h => absurd h (by decide)
      | NotAPermutation => exact fun h => absurd h (by decide)
      | BadSetting => exact fun h => absurd h (by decide)
      | BadSigns => exact fun h => absurd h (by decide)
      | BadChoice => exact fun h => absurd h (by decide)
      | NotOuter => exact fun h => absurd h (by decide)
    kx_ValueError := fun c hc => by
      revert hc
      cases c with
      | NotAPairing => exact fun h => absurd h (by decide)
      | NothingToUndo => exact fun h => absurd h (by decide)
      | NothingToRedo => exact fun h => absurd h (by decide)
      | BadLabel => exact fun h => absurd h (by decide)
      | NameTaken => exact fun h => absurd h (by decide)
      | NoSuchName => exact fun h => absurd h (by decide)
      | StillTied => exact fun h => absurd h (by decide)
      | ComesapartError => exact fun h => absurd h (by decide)
      | TooLarge => exact fun _ => kit_VE q193
      | BadLine => exact fun h => absurd h (by decide)
      | UnknownPlace => exact fun h => absurd h (by decide)
      | BadSides => exact fun h => absurd h (by decide)
      | UnknownSide => exact fun h => absurd h (by decide)
      | UnknownTie => exact fun h => absurd h (by decide)
      | BadStep => exact fun h => absurd h (by decide)
      | Repeated => exact fun h => absurd h (by decide)
      | NotATurningCycle => exact fun h => absurd h (by decide)
      | UnknownPoint => exact fun _ => kit_VE q195
      | UnknownPair => exact fun _ => kit_VE q194
      | SamePoint => exact fun h => absurd h (by decide)
      | NoLinks => exact fun h => absurd h (by decide)
      | BadLink => exact fun h => absurd h (by decide)
      | BadNode => exact fun h => absurd h (by decide)
      | UnknownTerm => exact fun h => absurd h (by decide)
      | NotSameSteps => exact fun h => absurd h (by decide)
      | NoFacing => exact fun h => absurd h (by decide)
      | NotARing => exact fun h => absurd h (by decide)
      | NotAJoint => exact fun h => absurd h (by decide)
      | NotShut => exact fun h => absurd h (by decide)
      | BadCut => exact fun h => absurd h (by decide)
      | NoSuchCut => exact fun h => absurd h (by decide)
      | Locked => exact fun h => absurd h (by decide)
      | Nothing => exact fun h => absurd h (by decide)
      | BadName => exact fun h => absurd h (by decide)
      | BadSign => exact fun h => absurd h (by decide)
      | BadMove => exact fun h => absurd h (by decide)
      | NoTerm => exact fun h => absurd h (by decide)
      | NeverOpened => exact fun h => absurd h (by decide)
      | BoundTwice => exact fun h => absurd h (by decide)
      | UnknownName => exact fun h => absurd h (by decide)
      | UsedTwice => exact fun h => absurd h (by decide)
      | NotUsed => exact fun h => absurd h (by decide)
      | NotARedex => exact fun h => absurd h (by decide)
      | NotBalanced => exact fun h => absurd h (by decide)
      | NotAnArrow => exact fun h => absurd h (by decide)
      | NotAPermutation => exact fun h => absurd h (by decide)
      | BadSetting => exact fun h => absurd h (by decide)
      | BadSigns => exact fun h => absurd h (by decide)
      | BadChoice => exact fun h => absurd h (by decide)
      | NotOuter => exact fun h => absurd h (by decide)
    b_ValueError := PySem.W.mg_none_of X G q196
    b_abs := PySem.W.mg_none_of X G q197
    b_any := PySem.W.mg_none_of X G q198
    b_bool := PySem.W.mg_none_of X G q199
    b_enumerate := PySem.W.mg_none_of X G q200
    b_int := PySem.W.mg_none_of X G q201
    b_isinstance := PySem.W.mg_none_of X G q202
    b_len := PySem.W.mg_none_of X G q203
    b_list := PySem.W.mg_none_of X G q204
    b_range := PySem.W.mg_none_of X G q205
    b_set := PySem.W.mg_none_of X G q206
    b_sorted := PySem.W.mg_none_of X G q207
    b_tuple := PySem.W.mg_none_of X G q208
  }
  have G_x_TooLarge : ∀ base : Heap, FnOk PySem.Challenge.rw_comesapart_k27_bridges_by_definition.prog w K mg base (L2.CX PySem.Challenge.rw_comesapart_k27_bridges_by_definition.prog w) 1 T.i_TooLarge T.fx_TooLarge ["self", "limit"] (spX1 (T.A.tx .TooLarge) "limit") := fun base => fok_exc1 (k := 0) (ar := ((defArgs ((clsB (topS 3)).getD 0 (.Pass ⟨0, 0, 0, 0⟩))).posonlyargs ++ (defArgs ((clsB (topS 3)).getD 0 (.Pass ⟨0, 0, 0, 0⟩))).args).headD ⟨"", none, ⟨0, 0, 0, 0⟩⟩) (F := initNF "__init__" "TooLarge.__init__" ((clsB (topS 3)).getD 0 (.Pass ⟨0, 0, 0, 0⟩)) cc_TooLarge cda_TooLarge) (D := D_TooLarge) (f := xf_TooLarge) (show NdefX.NScope ["self", "limit", "__class__"] ["self", "limit"] ["__class__"] (defScope ((clsB (topS 3)).getD 0 (.Pass ⟨0, 0, 0, 0⟩))) from NdefX.nscope_by (by decide +kernel)) rfl rfl (by decide +kernel) (by decide +kernel) (by decide) (by decide) (show (defScope ((clsB (topS 3)).getD 0 (.Pass ⟨0, 0, 0, 0⟩))).names.lookup ("super" : PySem.Str) = some NameKind.globalImplicit from by decide +kernel) q110 rfl q111 q112 q114 q113 q115 T.x_TooLarge q116 (PySem.W.mg_none_of X G q96) (by decide +kernel) q97 (by intro _; rfl)
  have G_x_UnknownPair : ∀ base : Heap, FnOk PySem.Challenge.rw_comesapart_k27_bridges_by_definition.prog w K mg base (L2.CX PySem.Challenge.rw_comesapart_k27_bridges_by_definition.prog w) 1 T.i_UnknownPair T.fx_UnknownPair ["self", "pair"] (spX1 (T.A.tx .UnknownPair) "pair") := fun base => fok_exc1 (k := 0) (ar := ((defArgs ((clsB (topS 5)).getD 0 (.Pass ⟨0, 0, 0, 0⟩))).posonlyargs ++ (defArgs ((clsB (topS 5)).getD 0 (.Pass ⟨0, 0, 0, 0⟩))).args).headD ⟨"", none, ⟨0, 0, 0, 0⟩⟩) (F := initNF "__init__" "UnknownPair.__init__" ((clsB (topS 5)).getD 0 (.Pass ⟨0, 0, 0, 0⟩)) cc_UnknownPair cda_UnknownPair) (D := D_UnknownPair) (f := xf_UnknownPair) (show NdefX.NScope ["self", "pair", "__class__"] ["self", "pair"] ["__class__"] (defScope ((clsB (topS 5)).getD 0 (.Pass ⟨0, 0, 0, 0⟩))) from NdefX.nscope_by (by decide +kernel)) rfl rfl (by decide +kernel) (by decide +kernel) (by decide) (by decide) (show (defScope ((clsB (topS 5)).getD 0 (.Pass ⟨0, 0, 0, 0⟩))).names.lookup ("super" : PySem.Str) = some NameKind.globalImplicit from by decide +kernel) q129 rfl q130 q131 q133 q132 q134 T.x_UnknownPair q135 (PySem.W.mg_none_of X G q96) (by decide +kernel) q97 (by intro _; rfl)
  have G_x_UnknownPoint : ∀ base : Heap, FnOk PySem.Challenge.rw_comesapart_k27_bridges_by_definition.prog w K mg base (L2.CX PySem.Challenge.rw_comesapart_k27_bridges_by_definition.prog w) 1 T.i_UnknownPoint T.fx_UnknownPoint ["self", "point"] (spX1 (T.A.tx .UnknownPoint) "point") := fun base => fok_exc1 (k := 0) (ar := ((defArgs ((clsB (topS 4)).getD 0 (.Pass ⟨0, 0, 0, 0⟩))).posonlyargs ++ (defArgs ((clsB (topS 4)).getD 0 (.Pass ⟨0, 0, 0, 0⟩))).args).headD ⟨"", none, ⟨0, 0, 0, 0⟩⟩) (F := initNF "__init__" "UnknownPoint.__init__" ((clsB (topS 4)).getD 0 (.Pass ⟨0, 0, 0, 0⟩)) cc_UnknownPoint cda_UnknownPoint) (D := D_UnknownPoint) (f := xf_UnknownPoint) (show NdefX.NScope ["self", "point", "__class__"] ["self", "point"] ["__class__"] (defScope ((clsB (topS 4)).getD 0 (.Pass ⟨0, 0, 0, 0⟩))) from NdefX.nscope_by (by decide +kernel)) rfl rfl (by decide +kernel) (by decide +kernel) (by decide) (by decide) (show (defScope ((clsB (topS 4)).getD 0 (.Pass ⟨0, 0, 0, 0⟩))).names.lookup ("super" : PySem.Str) = some NameKind.globalImplicit from by decide +kernel) q148 rfl q149 q150 q152 q151 q153 T.x_UnknownPoint q154 (PySem.W.mg_none_of X G q96) (by decide +kernel) q97 (by intro _; rfl)
  refine ⟨PySem.W.fnOf "law" "law" (defArgs s_law) (defBody s_law) (defScope s_law) .none kV17 dc17 pm17 an17 cd17 ct17, fun s v => .of_eq rfl, fun base _ _ => ?_⟩
  have G_l_cell := ok_l_cell (P := PySem.Challenge.rw_comesapart_k27_bridges_by_definition.prog) (w := w) (base := base) T
  have G_l_draws := ok_l_draws (P := PySem.Challenge.rw_comesapart_k27_bridges_by_definition.prog) (w := w) (base := base) T
  have G_l_pick := ok_l_pick (P := PySem.Challenge.rw_comesapart_k27_bridges_by_definition.prog) (w := w) (base := base) T
  have G_l_only := ok_l_only (P := PySem.Challenge.rw_comesapart_k27_bridges_by_definition.prog) (w := w) (base := base) T G_l_pick
  have G_l_paired := ok_l_paired (P := PySem.Challenge.rw_comesapart_k27_bridges_by_definition.prog) (w := w) (base := base) T G_l_pick
  have G_l_some := ok_l_some (P := PySem.Challenge.rw_comesapart_k27_bridges_by_definition.prog) (w := w) (base := base) T G_l_pick
  have G_l_bad := ok_l_bad (P := PySem.Challenge.rw_comesapart_k27_bridges_by_definition.prog) (w := w) (base := base) T G_l_pick
  have G_m_PairedWebX_initX := ok_m_PairedWebX_initX (P := PySem.Challenge.rw_comesapart_k27_bridges_by_definition.prog) (w := w) (base := base) T (G_x_TooLarge base) (G_x_UnknownPoint base)
  have G_l_parts := ok_l_parts (P := PySem.Challenge.rw_comesapart_k27_bridges_by_definition.prog) (w := w) (base := base) T
  have G_l_due := ok_l_due (P := PySem.Challenge.rw_comesapart_k27_bridges_by_definition.prog) (w := w) (base := base) T G_l_parts
  have G_m_PairedWeb_points := ok_m_PairedWeb_points (P := PySem.Challenge.rw_comesapart_k27_bridges_by_definition.prog) (w := w) (base := base) T
  have G_m_PairedWeb_all_ties := ok_m_PairedWeb_all_ties (P := PySem.Challenge.rw_comesapart_k27_bridges_by_definition.prog) (w := w) (base := base) T
  have G_p_grouped := ok_p_grouped (P := PySem.Challenge.rw_comesapart_k27_bridges_by_definition.prog) (w := w) (base := base) T
  have G_p_parts_points := ok_p_parts_points (P := PySem.Challenge.rw_comesapart_k27_bridges_by_definition.prog) (w := w) (base := base) T G_m_PairedWeb_points G_m_PairedWeb_all_ties G_p_grouped
  have G_p_is_bridge := ok_p_is_bridge (P := PySem.Challenge.rw_comesapart_k27_bridges_by_definition.prog) (w := w) (base := base) T G_p_parts_points (G_x_UnknownPair base)
  have G_l_told := ok_l_told (P := PySem.Challenge.rw_comesapart_k27_bridges_by_definition.prog) (w := w) (base := base) T G_p_is_bridge
  have G_p_parts_points_v2 := ok_p_parts_points_v2 (P := PySem.Challenge.rw_comesapart_k27_bridges_by_definition.prog) (w := w) (base := base) T G_m_PairedWeb_points G_m_PairedWeb_all_ties G_p_grouped
  have G_p_is_bridge_v2 := ok_p_is_bridge_v2 (P := PySem.Challenge.rw_comesapart_k27_bridges_by_definition.prog) (w := w) (base := base) T G_p_parts_points_v2 (G_x_UnknownPair base)
  have G_l_told_v2 := ok_l_told_v2 (P := PySem.Challenge.rw_comesapart_k27_bridges_by_definition.prog) (w := w) (base := base) T G_p_is_bridge_v2
  have G_l_right := ok_l_right (P := PySem.Challenge.rw_comesapart_k27_bridges_by_definition.prog) (w := w) (base := base) T G_m_PairedWebX_initX G_l_due G_l_told G_l_told_v2
  have G_law := ok_law (P := PySem.Challenge.rw_comesapart_k27_bridges_by_definition.prog) (w := w) (base := base) T G_l_cell G_l_draws G_l_pick G_l_only G_l_paired G_l_some G_l_bad G_l_right
  exact G_law
end K27

open PySem PySem.W PyProof.Rows
set_option maxRecDepth 100000 in
set_option maxHeartbeats 0 in
theorem PySem.Challenge.cw_comesapart_k27_bridges_by_definition_holds : PySem.Challenge.rw_comesapart_k27_bridges_by_definition.Holds := by
  w_on; o_law; k_head; (case hw => w_witness2)
  k_fill
  refine L2.walk_of (l := PySem.Challenge.rw_comesapart_k27_bridges_by_definition) (n := 63) (k := 7) (x := "_law_script") (CX := fun _ => L2.CX0) (sp := fun w => K27.sp_law ⟨PySem.Challenge.rw_comesapart_k27_bridges_by_definition.prog, w, _⟩) rfl (by decide) rfl ⟨rfl, by decide, by decide⟩ (fun w h Y => PySem.W.kIn_of Y) ?F (fun w _ a ns hl _ hS => ⟨⟨ns⟩, K27.law_plain ns hl, G.Fn.script hS⟩) (fun _ _ _ _ _ h => h)
  case F =>
    intro w mg fa h KX G hmg
    refine' K27.all_mk KX G hmg ?q0 ?q1 ?q2 ?q3 ?q4 ?q5 ?q6 ?q7 ?q8 ?q9 ?q10 ?q11 ?q12 ?q13 ?q14 ?q15 ?q16 ?q17 ?q18 ?q19 ?q20 ?q21 ?q22 ?q23 ?q24 ?q25 ?q26 ?q27 ?q28 ?q29 ?q30 ?q31 ?q32 ?q33 ?q34 ?q35 ?q36 ?q37 ?q38 ?q39 ?q40 ?q41 ?q42 ?q43 ?q44 ?q45 ?q46 ?q47 ?q48 ?q49 ?q50 ?q51 ?q52 ?q53 ?q54 ?q55 ?q56 ?q57 ?q58 ?q59 ?q60 ?q61 ?q62 ?q63 ?q64 ?q65 ?q66 ?q67 ?q68 ?q69 ?q70 ?q71 ?q72 ?q73 ?q74 ?q75 ?q76 ?q77 ?q78 ?q79 ?q80 ?q81 ?q82 ?q83 ?q84 ?q85 ?q86 ?q87 ?q88 ?q89 ?q90 ?q91 ?q92 ?q93 ?q94 ?q95 ?q96 ?q97 ?q98 ?q99 ?q100 ?q101 ?q102 ?q103 ?q104 ?q105 ?q106 ?q107 ?q108 ?q109 ?q110 ?q111 ?q112 ?q113 ?q114 ?q115 ?q116 ?q117 ?q118 ?q119 ?q120 ?q121 ?q122 ?q123 ?q124 ?q125 ?q126 ?q127 ?q128 ?q129 ?q130 ?q131 ?q132 ?q133 ?q134 ?q135 ?q136 ?q137 ?q138 ?q139 ?q140 ?q141 ?q142 ?q143 ?q144 ?q145 ?q146 ?q147 ?q148 ?q149 ?q150 ?q151 ?q152 ?q153 ?q154 ?q155 ?q156 ?q157 ?q158 ?q159 ?q160 ?q161 ?q162 ?q163 ?q164 ?q165 ?q166 ?q167 ?q168 ?q169 ?q170 ?q171 ?q172 ?q173 ?q174 ?q175 ?q176 ?q177 ?q178 ?q179 ?q180 ?q181 ?q182 ?q183 ?q184 ?q185 ?q186 ?q187 ?q188 ?q189 ?q190 ?q191 ?q192 ?q193 ?q194 ?q195 ?q196 ?q197 ?q198 ?q199 ?q200 ?q201 ?q202 ?q203 ?q204 ?q205 ?q206 ?q207 ?q208
    (case q0 => k_is)
    (case q1 => k_is)
    (case q2 => k_is)
    (case q3 => k_is)
    (case q4 => k_is)
    (case q5 => k_is)
    (case q6 => k_is)
    (case q7 => k_is)
    (case q8 => k_is)
    (case q9 => k_is)
    (case q10 => k_is)
    (case q11 => k_is)
    (case q12 => k_is)
    (case q13 => k_is)
    (case q14 => k_is)
    (case q15 => k_is)
    (case q16 => k_is)
    (case q17 => k_is)
    (case q18 => k_is)
    (case q19 => k_is)
    (case q20 => k_is)
    (case q21 => k_is)
    (case q22 => k_is)
    (case q23 => k_is)
    (case q24 => k_is)
    (case q25 => k_is)
    (case q26 => k_is)
    (case q27 => k_is)
    (case q28 => k_is)
    (case q29 => k_is)
    (case q30 => k_is)
    (case q31 => k_is)
    (case q32 => k_is)
    (case q33 => k_is)
    (case q34 => k_is)
    (case q35 => k_is)
    (case q36 => k_is)
    (case q37 => k_is)
    (case q38 => k_is)
    (case q39 => k_is)
    (case q40 => k_is)
    (case q41 => k_is)
    (case q42 => k_is)
    (case q43 => k_is)
    (case q44 => k_is)
    (case q45 => k_is)
    (case q46 => k_is)
    (case q47 => k_is)
    (case q48 => k_is)
    (case q49 => k_is)
    (case q50 => k_is)
    (case q51 => k_is)
    (case q52 => k_is)
    (case q53 => k_is)
    (case q54 => k_is)
    (case q55 => k_is)
    (case q56 => k_is)
    (case q57 => k_is)
    (case q58 => k_is)
    (case q59 => k_is)
    (case q60 => k_is)
    (case q61 => k_is)
    (case q62 => k_is)
    (case q63 => k_is)
    (case q64 => k_is)
    (case q65 => k_is)
    (case q66 => k_is)
    (case q67 => k_is)
    (case q68 => k_is)
    (case q69 => k_is)
    (case q70 => k_is)
    (case q71 => k_is)
    (case q72 => k_is)
    (case q73 => k_is)
    (case q74 => k_is)
    (case q75 => k_is)
    (case q76 => k_is)
    (case q77 => k_is)
    (case q78 => k_is)
    (case q79 => k_is)
    (case q80 => k_is)
    (case q81 => k_is)
    (case q82 => k_is)
    (case q83 => k_is)
    (case q84 => k_is)
    (case q85 => k_is)
    (case q86 => k_is)
    (case q87 => k_is)
    (case q88 => k_is)
    (case q89 => k_is)
    (case q90 => k_is)
    (case q91 => k_is)
    (case q92 => k_is)
    (case q93 => k_is)
    (case q94 => k_is)
    (case q95 => k_is)
    (case q96 => k_is)
    (case q97 => k_is)
    (case q98 => k_is)
    (case q99 => decide +kernel)
    (case q100 => k_is)
    (case q101 => k_is)
    (case q102 => k_is)
    (case q103 => k_is)
    (case q104 => k_is)
    (case q105 => k_is)
    (case q106 => ks_is)
    (case q107 => k_is)
    (case q108 => k_is)
    (case q109 => k_is)
    (case q110 => k_is)
    (case q111 => k_is)
    (case q112 => k_is)
    (case q113 => k_is)
    (case q114 => rfl)
    (case q115 => decide +kernel)
    (case q116 => k_is)
    (case q117 => k_is)
    (case q118 => decide +kernel)
    (case q119 => k_is)
    (case q120 => k_is)
    (case q121 => k_is)
    (case q122 => k_is)
    (case q123 => k_is)
    (case q124 => k_is)
    (case q125 => ks_is)
    (case q126 => k_is)
    (case q127 => k_is)
    (case q128 => k_is)
    (case q129 => k_is)
    (case q130 => k_is)
    (case q131 => k_is)
    (case q132 => k_is)
    (case q133 => rfl)
    (case q134 => decide +kernel)
    (case q135 => k_is)
    (case q136 => k_is)
    (case q137 => decide +kernel)
    (case q138 => k_is)
    (case q139 => k_is)
    (case q140 => k_is)
    (case q141 => k_is)
    (case q142 => k_is)
    (case q143 => k_is)
    (case q144 => ks_is)
    (case q145 => k_is)
    (case q146 => k_is)
    (case q147 => k_is)
    (case q148 => k_is)
    (case q149 => k_is)
    (case q150 => k_is)
    (case q151 => k_is)
    (case q152 => rfl)
    (case q153 => decide +kernel)
    (case q154 => k_is)
    (case q155 => k_is)
    (case q156 => k_is)
    (case q157 => k_is)
    (case q158 => k_is)
    (case q159 => k_is)
    (case q160 => k_is)
    (case q161 => k_is)
    (case q162 => k_is)
    (case q163 => k_is)
    (case q164 => k_is)
    (case q165 => k_is)
    (case q166 => k_is)
    (case q167 => k_is)
    (case q168 => k_is)
    (case q169 => k_is)
    (case q170 => k_is)
    (case q171 => k_is)
    (case q172 => k_is)
    (case q173 => k_is)
    (case q174 => k_is)
    (case q175 => k_is)
    (case q176 => k_is)
    (case q177 => k_is)
    (case q178 => k_is)
    (case q179 => k_is)
    (case q180 => k_is)
    (case q181 => k_is)
    (case q182 => k_is)
    (case q183 => k_is)
    (case q184 => k_is)
    (case q185 => k_is)
    (case q186 => k_is)
    (case q187 => k_is)
    (case q188 => k_is)
    (case q189 => k_is)
    (case q190 => k_is)
    (case q191 => decide)
    (case q192 => decide)
    (case q193 => k_is)
    (case q194 => k_is)
    (case q195 => k_is)
    (case q196 => k_is)
    (case q197 => k_is)
    (case q198 => k_is)
    (case q199 => k_is)
    (case q200 => k_is)
    (case q201 => k_is)
    (case q202 => k_is)
    (case q203 => k_is)
    (case q204 => k_is)
    (case q205 => k_is)
    (case q206 => k_is)
    (case q207 => k_is)
    (case q208 => k_is)

