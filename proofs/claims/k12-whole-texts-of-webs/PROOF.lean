import PyProof.Rows.All
import Wide.All
import OpenK.AllK
import Wide.FinOn
import HandS.Hot
import HandS.HotCalls
import HandS.Comp
import HandS.ExcCtx
import HandS.Lambda
import HandS.ExcInit
import HandS.ClsMeth
import HandS.Text
import HandS.Words
import HandS.ExcIs
import HandS.ForMost
import HandS.ForExc
import HandS.TupSets
import HandS.TupAny
import HandS.TupMul
import HandS.Wide
import HandS.Deep
import HandS.Style
import HandS.IsInst
import HandS.SortInts
import HandS.ExcField
import HandS.ExcInitHot
import HandS.Zip
import HandS.CallSlots
import HandS.Strs
import HandS.TupLen
import HandS.Ends
import HandS.EndTab
import HandS.ExcValue
import KE.KExcIs
import KE.KExcStr
import HandS.Codes
import PySem.Challenge.RW_spreadwebs_k12_whole_texts_of_webs
set_option Elab.async false
set_option linter.all false
set_option maxRecDepth 100000
set_option maxHeartbeats 4000000
/-! # walks and comprehensions while an exception is handled -/
namespace HotY
open PySem PySem.Spec PyProof.Rows HotX
section
variable {prog : Program} {w : World} {A : Around} {E : Value → Shared → Prop} {s : Shared}
theorem pyNext_list_end_hot {it l x1 : Addr} {i : Nat} {items} {Q : Option Value → Shared → Prop} (hot : HotAt A x1 s.heap) (hne : x1 ≠ it)
    (hit : s.heap.IsListIter it l i) (hl : s.heap.IsList l items) (hx : items[i]? = none)
    (hQ : ∀ h', Heap.ExtBut it s.heap h' → Q none { s with heap := h' }) : wpAny (model prog w) A (pyNext (.ref it)) Q E s := by
  obtain ⟨o, ho, hc, hd⟩ := id hit
  obtain ⟨ol, hol, _, nl, hdl⟩ := hl
  unfold pyNext
  refine wpAny_bind (wpAny_attempt (wpAny_callSpecial?_slot (name := Str.ofString "__next__") hit.typeIs slot_listiter_next
    (wpAny_call_entry slot_listiter_next hit.typeIs entry_listiter_next ?_ (args_listiter_next _))))
  show wpAny _ _ (field (.ref it) 0 >>= _) _ _ s
  refine wpAny_bind (wpAny_field ho hd (x := .ref l) rfl ?_)
  show wpAny _ _ (if (Value.ref l == Value.none) = true then _ else _) _ _ s
  rw [if_neg (show ¬ ((Value.ref l == Value.none) = true) from Bool.false_ne_true)]
  show wpAny _ _ (field (.ref it) 1 >>= _) _ _ s
  refine wpAny_bind (wpAny_field ho hd (x := .int i 0) rfl ?_)
  show wpAny _ _ (seqItems? (.ref l) >>= _) _ _ s
  refine wpAny_bind (wpAny_seqItems hol hdl ?_)
  simp only [Int.toNat_natCast, hx]
  refine wpAny_bind (wpAny_rule (wpAny_bind (wpAny_setField ho hd (by simp) ?_)))
  show wpAny _ _ (newExc (.type "StopIteration") [] >>= _) _ _ _
  refine wpAny_bind ?_
  simp only [newExc, newTuple]
  refine wpAny_bind (wpAny_newObj_type ?_ (by size_fits))
  refine wpAny_bind (m := firstArgMember _ _) (wpAny_of_eq (a := Value.none) (by first | rfl | (simp only [firstArgMember]; rfl)) ?_)
  refine wpAny_newObj_type ?_ (by size_fits)
  obtain ⟨hh, o1, vs1, h1, d1, c1⟩ := hot
  have h1' : ∀ f, (s.heap.update it (Obj.mapFields f)).get? x1 = some o1 := fun f => by rw [Heap.get?_update_other _ _ (Ne.symm hne)]; exact h1
  refine raiseNew_hot ⟨hh, o1, vs1, Heap.get?_push_of_some _ (Heap.get?_push_of_some _ (h1' _)), d1, c1⟩ (Nat.ne_of_lt (Heap.lt_size (Heap.get?_push_of_some _ (h1' _)))) (Heap.get?_push_size _ rfl) rfl (by first | (simp; done) | (simp; omega) | (simp only [Array.size_append]; simp; omega)) ?_
  refine wpAny_bind (wpAny_isInstance (T := "StopIteration") (b := true) ⟨_, Heap.get?_update_self _ (Heap.get?_push_size _ rfl) rfl, rfl⟩ isSubtype_stop ?_)
  refine wpAny_pure (hQ _ fun b u hb e => ?_)
  have e' : ∀ f, (s.heap.update it (Obj.mapFields f)).get? b = some u := fun f => by rw [Heap.get?_update_other _ _ (Ne.symm hb)]; exact e
  rw [Heap.get?_update_other _ _ (Nat.ne_of_gt (Heap.lt_size (Heap.get?_push_of_some _ (e' _))))]
  exact Heap.get?_push_of_some _ (Heap.get?_push_of_some _ (e' _))
theorem next_tuple_end_hot {it t x1 : Addr} {i : Nat} {items} {Q : Option Value → Shared → Prop} (hot : HotAt A x1 s.heap) (hne : x1 ≠ it)
    (hit : IsTupIter s.heap it t i) (ht : IsTup s.heap t items) (hx : items[i]? = none)
    (hQ : ∀ h', Heap.ExtBut it s.heap h' → Q none { s with heap := h' }) : wpAny (model prog w) A (pyNext (.ref it)) Q E s := by
  obtain ⟨o, ho, hc, hd⟩ := id hit
  obtain ⟨ol, hol, _, nl, hdl⟩ := ht
  unfold pyNext
  refine wpAny_bind (wpAny_attempt (wpAny_callSpecial?_slot (name := Str.ofString "__next__") hit.typeIs slot_tupleiter_next
    (wpAny_call_entry slot_tupleiter_next hit.typeIs entry_tupleiter_next ?_ (args_tupleiter_next _))))
  show wpAny _ _ (field (.ref it) 0 >>= _) _ _ s
  refine wpAny_bind (wpAny_field ho hd (x := .ref t) rfl ?_)
  show wpAny _ _ (if (Value.ref t == Value.none) = true then _ else _) _ _ s
  rw [if_neg (show ¬ ((Value.ref t == Value.none) = true) from Bool.false_ne_true)]
  show wpAny _ _ (field (.ref it) 1 >>= _) _ _ s
  refine wpAny_bind (wpAny_field ho hd (x := .int i 0) rfl ?_)
  show wpAny _ _ (seqItems? (.ref t) >>= _) _ _ s
  refine wpAny_bind (wpAny_seqItems hol hdl ?_)
  simp only [Int.toNat_natCast, hx]
  refine wpAny_bind (wpAny_rule (wpAny_bind (wpAny_setField ho hd (by simp) ?_)))
  show wpAny _ _ (newExc (.type "StopIteration") [] >>= _) _ _ _
  refine wpAny_bind ?_
  simp only [newExc, newTuple]
  refine wpAny_bind (wpAny_newObj_type ?_ (by size_fits))
  refine wpAny_bind (m := firstArgMember _ _) (wpAny_of_eq (a := Value.none) (by first | rfl | (simp only [firstArgMember]; rfl)) ?_)
  refine wpAny_newObj_type ?_ (by size_fits)
  obtain ⟨hh, o1, vs1, h1, d1, c1⟩ := hot
  have h1' : ∀ f, (s.heap.update it (Obj.mapFields f)).get? x1 = some o1 := fun f => by rw [Heap.get?_update_other _ _ (Ne.symm hne)]; exact h1
  refine raiseNew_hot ⟨hh, o1, vs1, Heap.get?_push_of_some _ (Heap.get?_push_of_some _ (h1' _)), d1, c1⟩ (Nat.ne_of_lt (Heap.lt_size (Heap.get?_push_of_some _ (h1' _)))) (Heap.get?_push_size _ rfl) rfl (by first | (simp; done) | (simp; omega) | (simp only [Array.size_append]; simp; omega)) ?_
  refine wpAny_bind (wpAny_isInstance (T := "StopIteration") (b := true) ⟨_, Heap.get?_update_self _ (Heap.get?_push_size _ rfl) rfl, rfl⟩ isSubtype_stop ?_)
  refine wpAny_pure (hQ _ fun b u hb e => ?_)
  have e' : ∀ f, (s.heap.update it (Obj.mapFields f)).get? b = some u := fun f => by rw [Heap.get?_update_other _ _ (Ne.symm hb)]; exact e
  rw [Heap.get?_update_other _ _ (Nat.ne_of_gt (Heap.lt_size (Heap.get?_push_of_some _ (e' _))))]
  exact Heap.get?_push_of_some _ (Heap.get?_push_of_some _ (e' _))
theorem _root_.HotX.HotAt.ext {x1 : Addr} {h h' : Heap} (c : HotAt A x1 h) (k : ∀ o, h.get? x1 = some o → h'.get? x1 = some o) : HotAt A x1 h' :=
  let ⟨hh, o, vs, e, d, c⟩ := c
  ⟨hh, o, vs, k o e, d, c⟩
theorem _root_.HotX.HotAt.lt {x1 : Addr} {h : Heap} (c : HotAt A x1 h) : x1 < h.objs.size := let ⟨_, _, _, e, _⟩ := c; Heap.lt_size e
theorem unpackItems_tuple_hot {t x1 : Addr} {items : Array Value} {Q : List Value → Shared → Prop} (hot : HotAt A x1 s.heap) (ht : IsTup s.heap t items)
    (hQ : ∀ h', Heap.ExtBut s.heap.objs.size s.heap h' → Q items.toList { s with heap := h' }) : wpAny (model prog w) A (unpackItems (.ref t) items.size none) Q E s := by
  have hlt : t ≠ s.heap.objs.size := by obtain ⟨o, ho, _⟩ := ht; exact Nat.ne_of_lt (Heap.lt_size ho)
  have hx : x1 ≠ s.heap.objs.size := Nat.ne_of_lt hot.lt
  unfold unpackItems
  refine wpAny_bind ?_
  · unfold notIterableAtAll
    refine wpAny_bind (wpAny_specialOf ht.typeIs slot_tuple_iter.lookup ?_)
    refine wpAny_pure ?_
    simp only [Bool.false_eq_true, if_false]
    refine wpAny_bind (wpAny_holding (iter_tuple ht ?_))
    refine wpAny_bind (wpAny_holding (draw_tuple hlt items.size 0 _ _ ⟨_, Heap.get?_push_size _ rfl, rfl, rfl⟩ (ht.push _) (by omega) fun h₁ hit₁ hs₁ => ?_))
    have hall : List.take items.size (List.drop 0 items.toList) = items.toList := by
      rw [List.drop_zero]; exact List.take_of_length_le (by simp)
    rw [hall]
    rw [if_neg (by simp)]
    have ht₁ : IsTup h₁ t items := (ht.push _).extBut hs₁.extBut hlt
    have hot₁ : HotAt A x1 h₁ := hot.ext fun o e => hs₁.extBut x1 o hx (Heap.get?_push_of_some _ e)
    refine wpAny_bind (wpAny_holding (next_tuple_end_hot (s := { s with heap := h₁ }) hot₁ hx hit₁ ht₁ (by simp) fun h₂ he₂ => ?_))
    simp only [Option.isSome_none, Bool.false_eq_true, if_false]
    refine wpAny_pure (hQ h₂ fun b o hb e => he₂ b o hb (hs₁.extBut b o hb (Heap.get?_push_of_some _ e)))
theorem assign_Tuple_tuple_hot {env : Env} {elts : List Expr} {x1} {pos : Pos} {t x2 : Addr} {items : Array Value} {Q : Unit → Shared → Prop} (hot : HotAt A x2 s.heap) (ht : IsTup s.heap t items)
    (hn : (assignEach elts env).length = items.size) (hstar : (assignEach elts env).findIdx? (·.1) = none)
    (h : ∀ h', Heap.ExtBut s.heap.objs.size s.heap h' → wpAny (model prog w) A (assignInOrder ((assignEach elts env).map (·.2)) items.toList) Q E { s with heap := h' }) :
    wpAny (model prog w) A (assign (.Tuple elts x1 pos) env (.ref t)) Q E s := by
  rw [assign_Tuple]
  refine wpAny_bind (wpAny_standAt ?_)
  unfold unpack
  rw [hn, hstar]
  exact wpAny_bind (wpAny_holding (unpackItems_tuple_hot hot ht h))
end

/-! ### hot contexts -/
open L2
/-- an exception is handled, that stood at the entry already; its context is None -/
def HotS (X : Cx) : Prop := ∃ (x1 : Addr) (o : Obj) (vs : Array Value), X.A.handled = some (.ref x1) ∧ X.s_0.heap.get? x1 = some o ∧ o.data = .fields vs ∧ vs[2]? = some .none ∧ X.H_0 x1 = none ∧ x1 ∉ X.fs ∧ x1 ∉ X.ex
theorem HotS.at {X : Cx} {pins : List (Addr × Obj)} {σ : L2.St} {H : L2.Hp} {s : Shared} (c : HotS X) (I : L2.Inv X pins σ H s) : ∃ x1, HotAt X.A x1 s.heap ∧ H x1 = none ∧ x1 < X.s_0.heap.objs.size ∧ x1 ∉ X.ex := by
  obtain ⟨x1, o, vs, hh, e, d, c, n, nf, nx⟩ := c
  exact ⟨x1, ⟨hh, o, vs, I.base.keep x1 o e n nf nx, d, c⟩, I.base.free x1 o e n nx, Heap.lt_size e, nx⟩
/-- an iterator's own objects are not the handled exception -/
theorem HotS.ne {X : Cx} {pins : List (Addr × Obj)} {σ : L2.St} {H : L2.Hp} {s : Shared} {b x1 : Addr} (l : x1 < X.s_0.heap.objs.size) (nx : x1 ∉ X.ex) (f : FpOk X pins H b) : x1 ≠ b := by
  rintro rfl
  rcases f.2.2.2.1 with z | z
  · exact nx z
  · exact absurd (Nat.lt_of_lt_of_le l z) (Nat.lt_irrefl _)
theorem HotS.blk {X : Cx} {pins : List (Addr × Obj)} {σ : L2.St} {H : L2.Hp} {s : Shared} {scope : Scope} {ce : Env} {fp : List Addr} (c : HotS X) (I : L2.Inv X pins σ H s) (hfp : ∀ b ∈ fp, FpOk X pins H b) : HotS (X.blk s H scope ce fp) := by
  have c0 := c
  obtain ⟨x1, o, vs, hh, e, d, cc, n, nf, nx⟩ := c
  have lt := Heap.lt_size e
  refine ⟨x1, o, vs, hh, I.base.keep x1 o e n nf nx, d, cc, I.base.free x1 o e n nx, fun z => ?_, fun z => HotS.ne (σ := σ) (s := s) lt nx (hfp x1 z) rfl⟩
  rcases List.mem_cons.mp (I.stkSub x1 z) with z | z
  · exact absurd (Nat.lt_of_lt_of_le lt (by rw [z]; exact I.ok.above)) (Nat.lt_irrefl _)
  · exact nf z
structure TurnS (P : Program) (w : World) (K : PySem.W.Frag) (tg : Expr) (J : It) (fp : List Addr) (it : Addr) (tn : Nat → Heap → Prop) : Prop where
  mem : it ∈ fp
  obj : ∀ i h, tn i h → ∀ b ∈ fp, ∃ o, h.get? b = some o ∧ ∀ v, o.data ≠ .cell v
  keep : ∀ i h h', tn i h → (∀ b ∈ fp, ∀ o, h.get? b = some o → h'.get? b = some o) → tn i h'
  item : ∀ (X : Cx), X.prog = P → X.w = w → X.K = K → HotS X → ∀ (i : Nat) (pins : List (Addr × Obj)) (s : Shared) (σ : L2.St) (H : Hp) (E : Value → Shared → Prop), L2.Inv X pins σ H s → (∀ b ∈ fp, FpOk X pins H b) → tn i s.heap → J.go i H →
    wpAny (model P w) X.A (pyNext (.ref it)) (fun r s1 => ∃ u, r = some u ∧
      wpAny (model P w) X.A (letOwnedTupleGo tg (.ref it) u) (fun _ s2 => ∃ x H', L2.Inv X pins σ H' s2 ∧ RelV x u ∧ J.yld i H x H' ∧ tn (i + 1) s2.heap ∧ ∀ b ∈ fp, H' b = none) E s1) E s
  done : ∀ (X : Cx), X.prog = P → X.w = w → X.K = K → HotS X → ∀ (i : Nat) (pins : List (Addr × Obj)) (s : Shared) (σ : L2.St) (H : Hp) (E : Value → Shared → Prop), L2.Inv X pins σ H s → (∀ b ∈ fp, FpOk X pins H b) → tn i s.heap → J.stop i H →
    wpAny (model P w) X.A (pyNext (.ref it)) (fun r s1 => r = none ∧ L2.Inv X pins σ H s1) E s
  self : ∀ (A : Around) (i : Nat) (s : Shared) (Q : Value → Shared → Prop) (E : Value → Shared → Prop), tn i s.heap → Q (.ref it) s → wpAny (model P w) A (pyIter (.ref it)) Q E s
theorem turnS_list {P : Program} {w : World} {K : PySem.W.Frag} {tg : Expr} (a it : Addr) : TurnS P w K tg (Itl K a) [it] it (fun i h => h.IsListIter it a i) where
  mem := by simp
  obj := (turn_list (P := P) (w := w) (K := K) (tg := tg) a it).obj
  keep := (turn_list (P := P) (w := w) (K := K) (tg := tg) a it).keep
  item := by
    intro X hP hw hK hc i pins s σ H E I hf st hg
    subst hP hw hK
    obtain ⟨xs, x, hq, hx⟩ := hg
    obtain ⟨its, rv, p, hz⟩ := I.list hq
    obtain ⟨u, hu, ru⟩ := rv.get hx
    obtain ⟨f0, f1, f2, f3, f4, f5⟩ := hf it (by simp)
    refine wpAny_pyNext_list_item st p.isList (x := u) (by simpa using hu) fun h' st' sb => ?_
    have I1 : Inv X pins σ H { s with heap := h' } := I.turned (t' := s.toks) (fun b o hb e => (sb.2 b hb).trans e) f0 f1 f3 f4 f5
    obtain ⟨o, e, c, d⟩ := id st'
    exact ⟨u, rfl, go_of (s := { s with heap := h' }) e c d (by decide) ⟨x, H, I1, ru, ⟨rfl, fun ys hy => by rw [I.list_inj hy hq]; exact hx⟩, st', fun b hb => (hf b hb).1⟩⟩
  done := by
    intro X hP hw hK hc i pins s σ H E I hf st hg
    subst hP hw hK
    obtain ⟨xs, hq, hx⟩ := hg
    obtain ⟨its, rv, p, hz⟩ := I.list hq
    obtain ⟨x1, hot, n1, l1, nx⟩ := hc.at I
    have hne := HotS.ne (σ := σ) (s := s) l1 nx (hf it (by simp))
    obtain ⟨f0, f1, f2, f3, f4, f5⟩ := hf it (by simp)
    have hl := rv.length
    exact pyNext_list_end_hot hot hne st p.isList (by simp; omega) fun h' eb => ⟨rfl, I.turned (t' := s.toks) (fun b o hb e => eb b o hb e) f0 f1 f3 f4 f5⟩
  self := fun _ _ _ _ _ st h => wpAny_pyIter_listiter st h
def PIES (X : Cx) (pins : List (Addr × Obj)) (σ : L2.St) (tg : Expr) (R : It → Hp → Prop) (itv : Value) (s2 : Shared) : Prop :=
  ∃ (it : Addr) (fp : List Addr) (tn : Nat → Heap → Prop) (J : It) (H' : Hp), itv = .ref it ∧ L2.Inv X pins σ H' s2 ∧ TurnS X.prog X.w X.K tg J fp it tn ∧ tn 0 s2.heap ∧ (∀ b ∈ fp, FpOk X pins H' b) ∧ R J H'
structure PIS (X : Cx) (tg iter : Expr) (wi : TI) : Prop where
  run : ∀ (pins : List (Addr × Obj)) (s : Shared) (σ : L2.St) (H : Hp) (R : It → Hp → Prop), L2.Inv X pins σ H s → wi σ H R →
    wpAny (model X.prog X.w) X.A (eval iter X.env) (fun v s1 => wpAny (model X.prog X.w) X.A (pyIter v) (PIES X pins σ tg R) X.xe s1) X.xe s
section
variable {X : Cx}
theorem pg_tupS {es : List Expr} {k : Nat} {t : TGs} {n : Nat} {pos : Pos} (hc : HotS X) (h : PGs X es t)
    (hn : (assignEach es X.env).length = n := by rfl) (hst : (assignEach es X.env).findIdx? (·.1) = none := by rfl) : PG X (.Tuple es k pos) (gTup X.K n t) := by
  refine ⟨fun pins s σ H v u Q I r hw => ?_⟩
  obtain ⟨a, xs, e1, hq, hl, hw⟩ := hw
  subst e1
  cases r
  obtain ⟨its, rv, ht, hz⟩ := I.tuple hq
  obtain ⟨x1, hot, _⟩ := hc.at I
  refine assign_Tuple_tuple_hot hot ht (by simp [hn, ← hl, rv.length]) hst fun h' hx => ?_
  have I1 : Inv X pins σ H { s with heap := h' } := I.kept (t' := s.toks) fun b o e => hx b o (Nat.ne_of_lt (Heap.lt_size e)) e
  exact h.run pins _ σ H xs _ Q I1 (by simpa using rv) hw
theorem pi_listS {tg l : Expr} {tl : TE} (hl : PE X l tl) : PIS X tg l (iList X.K tl) := by
  refine ⟨fun pins s σ H R I h => ?_⟩
  refine thn (hl.run pins s σ H _ I h) fun v s1 ⟨x, H1, I1, r1, q1⟩ => ?_
  obtain ⟨a, e, ⟨xs, hq⟩, q⟩ := q1
  subst e
  cases r1
  obtain ⟨its, rv, p, hz⟩ := I1.list hq
  refine wpAny_pyIter_list p.isList ?_
  refine ⟨s1.heap.objs.size, [s1.heap.objs.size], _, _, H1, rfl, I1.kept (t' := s1.toks) fun b o e => Heap.get?_push_of_some _ e, turnS_list a _, ⟨_, Heap.get?_push_size _ rfl, rfl, rfl⟩, fun b hb => ?_, q⟩
  have e : b = s1.heap.objs.size := by simpa using hb
  subst e
  exact I1.fpOk (Nat.le_refl _) (I1.hok.fresh (Nat.le_refl _))
theorem lc_coreS {pins : List (Addr × Obj)} {s : Shared} {σ : L2.St} {H : Hp} {Q : VK} {elt tg iter : Expr} {ifs : List Expr} {scope : Scope} {own : List (Str × Nat)} {pos pos' : Pos} {wi : TI} {g : TG} {tt : TT} {te : TE} {use : Option (Value → Sem Unit)} {Qf : Value → Shared → Prop}
    (hc : HotS X) (hN : X.N.Nodup) (I : Inv X pins σ H s) (hi : PIS X tg iter wi) (ok : BlkOk X.N X.env.scope scope own)
    (hg : ∀ (s : Shared) (H : Hp) (C : Addr) (cl : List (Str × Addr)) (fp : List Addr), HotS (X.blk s H scope (compEnvC scope cl C X.env) fp) → PG (X.blk s H scope (compEnvC scope cl C X.env) fp) tg g) (ht : ∀ (s : Shared) (H : Hp) (C : Addr) (cl : List (Str × Addr)) (fp : List Addr), HotS (X.blk s H scope (compEnvC scope cl C X.env) fp) → PTs (X.blk s H scope (compEnvC scope cl C X.env) fp) ifs tt)
    (he : ∀ (s : Shared) (H : Hp) (C : Addr) (cl : List (Str × Addr)) (fp : List Addr), HotS (X.blk s H scope (compEnvC scope cl C X.env) fp) → PE (X.blk s H scope (compEnvC scope cl C X.env) fp) elt te) (hs : ∀ x, foldedSetIterable iter X.env x = pure x)
    (h : tLc wi g tt te (own.map (·.2)) σ H Q)
    (hRR : ∀ D C s' m H', Inv X pins σ H' s' → Q (.ref D) H' → s'.heap.Ns C m → FpOk X pins H' C → compPost (model X.prog X.w) X.A X.xe use Qf (.ref D) C (.ok .next) s') :
    wpAny (model X.prog X.w) X.A (comprehension (.ListComp elt [⟨tg, iter, ifs, 0⟩] scope pos) scope X.env pos' (newList []) false (eval iter X.env) use) Qf X.xe s := by
  have hfree : ∀ y ∈ scope.names, y.2 = .free → ∃ c, X.env.cells.lookup y.1 = some c := fun y hy e => by
    rcases ok.free y hy e with k | k
    · exact I.ok.has _ (.inl k)
    · exact I.ok.has _ (.inr k)
  refine wpAny_comprehension_free (use := use) rfl hs (closure_ok hfree) ok.kind (fun y hy e => by rw [ok.uniq y hy, e])
    (thn (hi.run pins s σ H _ I h) fun xv s1 hx => thn hx fun itv s2 h2 => ?_)
  obtain ⟨it, fp, tn, J, H2, e, I2, T, st2, f2, q⟩ := h2
  subst e
  refine wpAny_newObj_type (newEnv_comp ?_) (by show 0 ≤ sizeLine; decide)
  generalize hD : s2.heap.objs.size = D
  have hDn : H2 D = none := I2.hok.fresh (Nat.le_of_eq hD)
  obtain ⟨W, ⟨m0, w0⟩, turn⟩ := q D hDn
  -- the new list
  generalize hs3 : ({ s2 with heap := s2.heap.push { cls := .type "list", data := .seq ([] : List Value).toArray } } : Shared) = s3
  have I3 : Inv X pins σ (upd H2 D (.lst [])) s3 := by
    rw [← hs3]
    refine I2.laid (t' := s2.toks) (fun b o e => Heap.get?_push_of_some _ e) (Nat.le_of_eq hD) ⟨Nat.zero_le _, [], 0, .nil, ?_⟩
    rw [← hD]
    exact Heap.get?_push_size _ rfl
  have h3 : s3.heap = s2.heap.push { cls := .type "list", data := .seq ([] : List Value).toArray } := by rw [← hs3]
  have sz : ∀ b ∈ fp, b < s2.heap.objs.size := fun b hb => by
    obtain ⟨o, e, _⟩ := T.obj _ _ st2 b hb
    exact Heap.lt_size e
  have f3 : ∀ b ∈ fp, FpOk X pins (upd H2 D (.lst [])) b ∧ b < s3.heap.objs.size := fun b hb => by
    have hlt := sz b hb
    refine ⟨⟨?_, (f2 b hb).2⟩, by rw [h3, Heap.size_push]; exact Nat.lt_succ_of_lt hlt⟩
    rw [upd_ne (by rw [← hD]; exact Nat.ne_of_lt hlt)]
    exact (f2 b hb).1
  have st3 : tn 0 s3.heap := T.keep _ _ _ st2 fun b _ o e => by rw [h3]; exact Heap.get?_push_of_some _ e
  have I4 := block_start I3 ok hN f3
  have hot3 : HotS (X.blk s3 (upd H2 D (.lst [])) scope (compEnvC scope (cellsFrom (s3.heap.objs.size + 1) scope.names (cloFrom X.env.cells scope.names [])) s3.heap.objs.size X.env) fp) := hc.blk I3 fun b hb => (f3 b hb).1
  have pg := hg s3 (upd H2 D (.lst [])) s3.heap.objs.size (cellsFrom (s3.heap.objs.size + 1) scope.names (cloFrom X.env.cells scope.names [])) fp hot3
  have pt := ht s3 (upd H2 D (.lst [])) s3.heap.objs.size (cellsFrom (s3.heap.objs.size + 1) scope.names (cloFrom X.env.cells scope.names [])) fp hot3
  have pe := he s3 (upd H2 D (.lst [])) s3.heap.objs.size (cellsFrom (s3.heap.objs.size + 1) scope.names (cloFrom X.env.cells scope.names [])) fp hot3
  show codeAny _ _ (.compStart (.ListComp elt [⟨tg, iter, ifs, 0⟩] scope pos) 0 (.ref it) (.ref D) (compEnvC scope (cellsFrom (s3.heap.objs.size + 1) scope.names (cloFrom X.env.cells scope.names [])) s3.heap.objs.size X.env)) (compPost (model X.prog X.w) X.A X.xe use Qf (.ref D) s3.heap.objs.size) { s3 with heap := pushCells (s3.heap.push { cls := .type "dict", data := .dict #[] }) scope.names }
  have nfp : ∀ b ∈ fp, (upd H2 D (.lst [])) b = none := fun b hb => (f3 b hb).1.1
  generalize hce : compEnvC scope (cellsFrom (s3.heap.objs.size + 1) scope.names (cloFrom X.env.cells scope.names [])) s3.heap.objs.size X.env = ce at I4 pg pt pe hot3 ⊢
  have cL : ce.locals = s3.heap.objs.size := by subst hce; rfl
  generalize hH3 : upd H2 D (.lst []) = H3 at I3 I4 pg pt pe w0 nfp f3 hot3
  generalize hs4 : ({ s3 with heap := pushCells (s3.heap.push { cls := .type "dict", data := .dict #[] }) scope.names } : Shared) = s4 at I4 ⊢
  have st4 : tn 0 s4.heap := T.keep _ _ _ st3 fun b _ o e => by rw [← hs4]; exact pushCells_keeps _ _ _ _ (Heap.get?_push_of_some _ e)
  have stat : ∀ {σ' : L2.St} {H' : Hp} {s' : Shared}, Inv (X.blk s3 H3 scope ce fp) [] σ' H' s' → (∀ b ∈ fp, H' b = none) → ∀ b ∈ fp, FpOk (X.blk s3 H3 scope ce fp) [] H' b := fun {σ' H' s'} I' hn b hb =>
    ⟨hn b hb, (I'.ok.exf b hb).1, I'.ok.exfs b hb, .inl hb, fun x c e => (I'.ok.exf b hb).2 x c e, fun p hp => absurd (show p ∈ ([] : List (Addr × Obj)) ++ [] from hp) (by simp)⟩
  have loop : codeAny (model X.prog X.w) X.A (.compLoop (.ListComp elt [⟨tg, iter, ifs, 0⟩] scope pos) 0 (.ref it) (.ref D) ce) (compPost (model X.prog X.w) X.A X.xe use Qf (.ref D) s3.heap.objs.size) s4 := by
    refine compLoop_any (fun n s' => ∃ i H', Inv (X.blk s3 H3 scope ce fp) [] (wipe σ (own.map (·.2))) H' s' ∧ tn i s'.heap ∧ (∀ b ∈ fp, H' b = none) ∧ W i n H') ?_ m0 ⟨0, H3, I4, st4, nfp, w0⟩
    rintro n s5 ⟨i, H5, I5, st5, n5, w5⟩
    rcases turn i n H5 w5 with ⟨stop, qq⟩ | ⟨go, Nx, hNx, step⟩
    · have td := T.done (X.blk s3 H3 scope ce fp) rfl rfl rfl hot3 i [] s5 _ H5 (fun _ _ => False) I5 (stat I5 n5) st5 stop
      refine thnF td fun r s6 ⟨hr, I6⟩ => ?_
      subst hr
      -- back in the def's context
      have I7 : Inv X pins σ H5 s6 := I3.call' (ch := fp) I6.os I6.base I6.hok I6.bare fun b hb => ⟨(f3 b hb).1.2.2.2.1, (f3 b hb).1.2.1, (f3 b hb).1.2.2.2.2.1, (f3 b hb).1.2.2.2.2.2⟩
      have nC : H5 s3.heap.objs.size = none := by
        have z : H5 ce.locals = none := I6.free
        rw [cL] at z
        exact z
      obtain ⟨m, hn, _⟩ := I6.loc
      have hn : s6.heap.Ns ce.locals m := hn
      rw [cL] at hn
      exact hRR D s3.heap.objs.size s6 m H5 I7 qq hn (I3.fpOk (Nat.le_refl _) nC)
    · have ti := T.item (X.blk s3 H3 scope ce fp) rfl rfl rfl hot3 i [] s5 _ H5 (fun _ _ => False) I5 (stat I5 n5) st5 go
      refine thnF ti fun r s6 ⟨u, hr, h6⟩ => ?_
      subst hr
      refine thnF h6 fun _ s7 ⟨x, H7, I7, r7, y7, st7, n7⟩ => ?_
      have I7' := I7.pinned (stat I7 n7) (T.obj _ _ st7)
      refine thnF (pg.run _ s7 _ H7 x u _ I7' r7 (step x H7 y7)) fun _ s8 ⟨σ8, H8, I8, hw8, q8⟩ => ?_
      refine thnF (pt.run _ s8 σ8 H8 _ I8 q8) fun b s9 ⟨H9, I9, q9⟩ => ?_
      -- the turn's end
      have fin : ∀ {s' : Shared} {H' : Hp}, Inv (X.blk s3 H3 scope ce fp) ([] ++ pinsAt fp s7.heap) σ8 H' s' → Nx H' → ∃ m, m < n ∧ ∃ i H', Inv (X.blk s3 H3 scope ce fp) [] (wipe σ (own.map (·.2))) H' s' ∧ tn i s'.heap ∧ (∀ b ∈ fp, H' b = none) ∧ W i m H' := fun {s' H'} I' nx => by
        obtain ⟨m', hm, w'⟩ := hNx H' nx
        have pin' : ∀ b ∈ fp, ∀ o, s7.heap.get? b = some o → s'.heap.get? b = some o ∧ H' b = none := fun b hb o e =>
          let z := I'.pin (b, o) (List.mem_append_right _ (List.mem_append_right _ (mem_pinsAt hb e)))
          ⟨z.1, z.2.1⟩
        have hl : (wipe σ (own.map (·.2))).length = σ8.length := by rw [← hw8, wipe_length]
        refine ⟨m', hm, i + 1, H', (I'.unpinned (pins := [])).weak hl (fun j v e => ?_), T.keep _ _ _ st7 fun b hb o e => (pin' b hb o e).1, fun b hb => ?_, w'⟩
        · rw [← hw8] at e
          exact (wipe_some e).1
        · obtain ⟨o, e, _⟩ := T.obj _ _ st7 b hb
          exact (pin' b hb o e).2
      cases b with
      | false =>
        simp only [Bool.false_eq_true, if_false] at q9 ⊢
        exact fin I9 q9
      | true =>
        simp only [if_true] at q9 ⊢
        refine thnF (pe.run _ s9 σ8 H9 _ I9 q9) fun z s10 ⟨yv, H10, I10, r10, acc, hD10, hz10, nx⟩ => ?_
        exact app_ok (X := X.blk s3 H3 scope ce fp) I10 hD10 hz10 r10 fun s11 I11 => fin I11 nx
  exact codeAny_compStart_list loop (T.self X.A 0 _ _ _ st4 loop)
theorem pe_lcS {elt tg iter : Expr} {ifs : List Expr} {scope : Scope} {own : List (Str × Nat)} {pos : Pos} {wi : TI} {g : TG} {tt : TT} {te : TE} (hc : HotS X) (hN : X.N.Nodup) (hi : PIS X tg iter wi) (ok : BlkOk X.N X.env.scope scope own)
    (hg : ∀ (s : Shared) (H : Hp) (C : Addr) (cl : List (Str × Addr)) (fp : List Addr), HotS (X.blk s H scope (compEnvC scope cl C X.env) fp) → PG (X.blk s H scope (compEnvC scope cl C X.env) fp) tg g) (ht : ∀ (s : Shared) (H : Hp) (C : Addr) (cl : List (Str × Addr)) (fp : List Addr), HotS (X.blk s H scope (compEnvC scope cl C X.env) fp) → PTs (X.blk s H scope (compEnvC scope cl C X.env) fp) ifs tt)
    (he : ∀ (s : Shared) (H : Hp) (C : Addr) (cl : List (Str × Addr)) (fp : List Addr), HotS (X.blk s H scope (compEnvC scope cl C X.env) fp) → PE (X.blk s H scope (compEnvC scope cl C X.env) fp) elt te) (hs : ∀ x, foldedSetIterable iter X.env x = pure x := by intro _; rfl) :
    PE X (.ListComp elt [⟨tg, iter, ifs, 0⟩] scope pos) (tLc wi g tt te (own.map (·.2))) := by
  refine ⟨fun pins s σ H Q I h => ?_⟩
  rw [eval_ListComp]
  refine lc_coreS hc hN I hi ok hg ht he hs h fun D C s' m H' I' q hn f => ⟨m, hn, fun h'' sb => ?_⟩
  obtain ⟨f0, f1, f2, f3, f4, f5⟩ := f
  exact ⟨.ref D, H', I'.turned (t' := s'.toks) (fun b o hb e => (sb.2 b hb).trans e) f0 f1 f3 f4 f5, rfl, q⟩
end
end HotY

set_option maxRecDepth 100000
set_option maxHeartbeats 4000000
/-! # several except clauses that name what they caught -/
namespace L2N
open PySem PySem.Spec PyProof.Rows L2
/-- what the clauses wish of an exception of the body; the name's slot is i, behind a suite it is free again -/
def wNamed (K : PySem.W.Frag) (i : Nat) (D : Ends) : List (Value × (Addr → Value → Option Addr → TS)) → WX
  | [] => fun _ _ _ _ => False
  | (c, ts) :: r => fun cls d σ H => ∃ b, PySem.W.exmOne K cls c = some b ∧
      (b = true → ∀ a, H a = none → ts a cls d { nx := fun σ' H' => D.nx (σ'.set i none) H', rt := D.rt, bk := fun σ' H' => D.bk (σ'.set i none) H', ct := fun σ' H' => D.ct (σ'.set i none) H' } (σ.set i (some (.ref a))) H) ∧
      (b = false → wNamed K i D r cls d σ H)
inductive HdsAs (X : Cx) (n : Str) : List ExceptHandler → List (Value × (Addr → Value → Option Addr → TS)) → Prop
  | nil : HdsAs X n [] []
  | cons {x : Str} {c : Value} {ts : Addr → Value → Option Addr → TS} {b₀ : Stmt} {suite : List Stmt} {np pos' : Pos} {hds : List ExceptHandler} {l : List (Value × (Addr → Value → Option Addr → TS))} (hc : Names X x c)
      (hsu : ∀ (a : Addr) (oe : Obj) (cls : Value) (d : Option Addr) (pn : List (Addr × Obj)), Zn cls d oe → (∃ vs, oe.data = .fields vs) → PSs (X.suite a ((a, oe) :: pn)) (b₀ :: suite) (ts a cls d)) (r : HdsAs X n hds l) :
      HdsAs X n (.ExceptHandler (some (.Name x np)) (some n) (b₀ :: suite) pos' :: hds) ((c, ts) :: l)
section
variable {X : Cx} {n : Str} {i : Nat} {body : List Stmt} {h₀ : ExceptHandler} {hds : List ExceptHandler} {l : List (Value × (Addr → Value → Option Addr → TS))} {pos : Pos} {tb : WX → TS}
theorem ps_try_named (hs : X.stack = X.env :: X.outer) (hf : X.env.frame = some X.env.locals) (hN : X.N.Nodup) (hi : X.N[i]? = some n) (hln : X.env.kindOf n = some .local)
    (hb : ∀ (W : WX) (pn : List (Addr × Obj)) (xe : Value → Shared → Prop), Takes (X.tr pn xe) W → PassesOwn (model X.prog X.w) X.A X.env xe → PSs (X.tr pn xe) body (tb W))
    (hh : HdsAs X n (h₀ :: hds) l) : PS X (.Try body (h₀ :: hds) [] [] pos) (fun D σ H => tb (wNamed X.K i D l) D σ H) := by
  refine ⟨fun pins s σ H D I h => ?_⟩
  have okz := I.ok
  have hlocz : Loc X.env.scope n := .inl hln
  have hfrz : X.A.frames = some (X.env :: X.outer) := by rw [okz.frames, hs]
  refine wpAny_Try_except ?_
  refine wpAny_mono ((hb (wNamed X.K i D l) (X.pn ++ pins) (fun e s₁ => wpAny (model X.prog X.w) X.A (noteFrame e X.env) (fun _ s₂ => wpAny (model X.prog X.w) X.A (setFlight e none) (fun _ s₃ =>
    wpAny (model X.prog X.w) X.A (handleBy e X.env (h₀ :: hds)) (SP X pins D) X.xe s₃) X.xe s₂) X.xe s₁) (fun u s' xx => ?_) PassesOwn.looking).run [] s σ H D (I.toTry _) h) (fun f s1z hspz => ?_) (fun e s1z he => he)
  · -- the catch
    obtain ⟨a, B, sI, pins', σ', H', cls, d, rfl, Jz', nbz, up, skyz, naz, osz, agz, w⟩ := xx
    have Jz : Inv X pins σ' H' sI := Jz'.ofTry okz
    have skyz' : Sky B (X.env :: X.outer) a (Zn cls d) X.env.locals s'.heap := by rw [← hs]; exact skyz
    show wpAny (model X.prog X.w) X.A (noteFrame (.ref a) X.env) _ _ _
    refine Sky.land Zn.steady hfrz hf skyz' fun h3z fl3z up3z => ?_
    have J3z : Inv X pins σ' H' { s' with heap := h3z } := Jz.landed nbz fl3z.1 (up.trans up3z) osz agz
    obtain ⟨oe3z, vs3z, he3z, hz3z, hd3z⟩ := fl3z.there
    have notFrz : ∀ {h : Heap} {o : Obj} {vs : Array Value}, h.FunFrames B (X.env :: X.outer) → h.get? a = some o → o.data = .fields vs → a ∉ frs (X.env :: X.outer) := fun {h o vs} ff e dd hmz => by
      obtain ⟨_, o', e', hnf⟩ := ff.mem hmz
      rw [e] at e'; cases e'
      exact hnf _ dd
    have nfrz := notFrz fl3z.2.2.1 he3z hd3z
    have nLz : a ≠ X.env.locals := fun z => nfrz (List.mem_filterMap.mpr ⟨X.env, List.mem_cons_self, by rw [hf, z]⟩)
    have nFz : a ∉ X.fs := fun hmz => by
      obtain ⟨e, he, q⟩ := List.mem_filterMap.mp hmz
      exact nfrz (List.mem_filterMap.mpr ⟨e, List.mem_cons_of_mem _ he, q⟩)
    have S3z := J3z.suite he3z hd3z naz nLz nFz
    have go : ∀ {hds' : List ExceptHandler} {l' : List (Value × (Addr → Value → Option Addr → TS))}, HdsAs X n hds' l' → wNamed X.K i D l' cls d σ' H' →
        wpAny (model X.prog X.w) X.A (handleBy (.ref a) X.env hds') (SP X pins D) X.xe { s' with heap := h3z } := by
      intro hds' l' hk
      induction hk with
      | nil =>
        intro w
        exact w.elim
      | @cons x c ts b₀ suite np pos' hds2 l2 hc hsu r ih =>
        intro w
        obtain ⟨b, hb1z, hyesz, hnoz⟩ := w
        refine wpAny_handleBy_cons (codeAny_handlers_test ?_) (by intro q; cases q)
        have LTz : PySem.W.Looks (model X.prog X.w) h3z (typeOf (.ref a)) cls := fun A Q E s k q => wpAny_typeOf_ref (k _ _ he3z) (by rw [hz3z.1]; exact q)
        have LMz := PySem.W.exm_one (M := model X.prog X.w) (J3z.kIn) LTz hb1z
        have testz : ∀ {Q : Value → Shared → Prop} {E : Value → Shared → Prop}, Q c { s' with heap := h3z } → wpAny (model X.prog X.w) (X.A.mark (some (.ref a))) (eval (.Name x np) X.env) Q E { s' with heap := h3z } := fun {Q E} q => by
          obtain ⟨hg, hdbg, hmz | ⟨hmz, hv, hnn⟩⟩ := hc
          · exact ld_glob (X := X.suite a ((a, oe3z) :: (X.pn ++ pins))) S3z hg hmz q hdbg
          · exact ld_blt (X := X.suite a ((a, oe3z) :: (X.pn ++ pins))) S3z hg hmz hv q hnn hdbg
        refine testz (LMz.here ?_)
        cases b with
        | true =>
          refine codeAny_handlers_suite_as ?_
          refine HandSPX.lands_againZ fl3z fun h4z fl4z up4z => ?_
          have J4z : Inv X pins σ' H' { s' with heap := h4z } := Jz.landed nbz fl4z.1 ((up.trans up3z).trans up4z) osz agz
          obtain ⟨oe4z, vs4z, he4z, hz4z, hd4z⟩ := fl4z.there
          have S4z := J4z.suite he4z hd4z naz nLz nFz
          refine store_ok (X := X.suite a ((a, oe4z) :: (X.pn ++ pins))) (v := .ref a) S4z hN hi hlocz rfl (fun s5z S5z => ?_) (.inr hln)
          refine wpAny_mono ((hsu a oe4z cls d (X.pn ++ pins) hz4z ⟨_, hd4z⟩).run [] s5z _ H' _ S5z (hyesz rfl a naz)) (fun f s6z hspz => ?_) (fun _ _ z => False.elim z)
          have end_z : ∀ {σ6z : St} {H6z : Hp} {Q : Shared → Prop}, Inv (X.suite a ((a, oe4z) :: (X.pn ++ pins))) [] σ6z H6z s6z → (∀ s7z, Inv X pins (σ6z.set i none) H6z s7z → Q s7z) →
              wpAny (model X.prog X.w) X.A (do bindName X.env n .none; unbindBehindTheSuite X.env n pos') (fun _ s7z => Q s7z) X.xe s6z := fun {σ6z H6z Q} S6z hqz => gone_ok (S6z.unsuite okz) hN hi hln hqz
          cases f with
          | next =>
            obtain ⟨σ6z, H6z, S6z, q6z⟩ := hspz
            exact end_z S6z fun s7z J7z => ⟨_, _, J7z, q6z⟩
          | brk =>
            obtain ⟨σ6z, H6z, S6z, q6z⟩ := hspz
            exact end_z S6z fun s7z J7z => ⟨_, _, J7z, q6z⟩
          | cont =>
            obtain ⟨σ6z, H6z, S6z, q6z⟩ := hspz
            exact end_z S6z fun s7z J7z => ⟨_, _, J7z, q6z⟩
          | ret u =>
            obtain ⟨v6, σ6z, H6z, S6z, r6, q6z⟩ := hspz
            exact end_z S6z fun s7z J7z => ⟨_, _, _, J7z, r6, q6z⟩
        | false =>
          show wpAny _ X.A (handleBy (.ref a) X.env hds2) _ _ _
          exact ih (hnoz rfl)
    exact go hh w
  · cases f with
    | next =>
      obtain ⟨σ', H', Jz', q⟩ := hspz
      exact wpAny_execs_nil ⟨σ', H', Jz'.ofTry okz, q⟩
    | brk =>
      obtain ⟨σ', H', Jz', q⟩ := hspz
      exact ⟨σ', H', Jz'.ofTry okz, q⟩
    | cont =>
      obtain ⟨σ', H', Jz', q⟩ := hspz
      exact ⟨σ', H', Jz'.ofTry okz, q⟩
    | ret u =>
      obtain ⟨v, σ', H', Jz', r, q⟩ := hspz
      exact ⟨v, σ', H', Jz'.ofTry okz, r, q⟩
end
end L2N

set_option maxRecDepth 100000
set_option maxHeartbeats 4000000
/-! # a lambda handed to a def: what it raises bears no context -/
namespace LamN
open PySem PySem.Spec PyProof.Rows L2 LamX
def lamCxN (X : Cx) (A : Around) (outer : List Env) (s : Shared) (H : Hp) (E : XK) (scope : Scope) (f c' : Addr) : Cx where
  prog := X.prog
  w := X.w
  K := X.K
  mg := X.mg
  base := X.base
  A := A.deeper (lamEnv X scope s.heap.objs.size f c')
  N := X.N
  s_0 := s
  H_0 := H
  env := lamEnv X scope s.heap.objs.size f c'
  outer := outer
  stack := lamEnv X scope s.heap.objs.size f c' :: outer
  ex := []
  fn := fun _ => false
  calm := true
  pn := []
  xe := fun e s' => wpAny (model X.prog X.w) (A.deeper (lamEnv X scope s.heap.objs.size f c')) (leaving (lamEnv X scope s.heap.objs.size f c') e) (fun _ s'' => L2N.CX X.prog X.w outer H s E e s'') (fun e' s'' => L2N.CX X.prog X.w outer H s E e' s'') s'
section
variable {X : Cx} {pins : List (Addr × Obj)} {σ : L2.St} {H HZ : Hp} {s s1z : Shared}
/-- the lambda is made: itsz code object is new, or found in the table -/
theorem lam_make3 {T : List (Addr × Str)} {c P : Addr} {params : Arguments} {body : Expr} {scope : Scope} {pos : Pos} {E : Value → Shared → Prop} {Q : Value → Shared → Prop} (I : Inv X pins σ H s) (TB : TabB X.base X.mg c P) (hcode : X.env.code = .ref c)
    (hmz : (P, X.env.qual ++ "<lambda>") ∈ T) (hu : ∀ p ∈ T, p.1 = P → p.2 = X.env.qual ++ "<lambda>") (hT : Tabs T H) (hdef : defaultsOf params X.env = ([], [])) (hfreez : ∀ y ∈ scope.names, y.2 = .free → ∃ c, X.env.cells.lookup y.1 = some c)
    (h : ∀ (f c' : Addr) (pm ctv : Value) (H1z : Hp) (s' : Shared), Inv X pins σ H1z s' → ExtN H H1z → (∀ b, H1z b = none → H b = none) → Tabs T H1z →
      s'.heap.get? f = some (PySem.W.kla_obj "<lambda>" (X.env.qual ++ "<lambda>") params body scope (cloFrom X.env.cells scope.names []) pm c' ctv) → H1z f = none → f ∉ frs X.stack → H1z c' = some (CodeO c' (X.env.qual ++ "<lambda>")) → Q (.ref f) s') :
    wpAny (model X.prog X.w) X.A (eval (.Lambda params body scope pos) X.env) Q E s := by
  obtain ⟨ps, hP, ht, ha⟩ := hT _ hmz
  refine PySem.W.kla_eval hdef ?_
  have bP : s.heap.BuiltinsAt X.mg P := TB.bm.keeps I.bk
  have hP' : s.heap.get? P = some { cls := .none, data := .fields ps } := I.hok P _ hP
  have nofr : ∀ f, s.heap.objs.size ≤ f → f ∉ frs X.stack := fun f hf z => by
    rcases List.mem_cons.mp (I.stkSub _ z) with e | e
    · have h1 := I.lt
      rw [← e] at h1
      exact Nat.lt_irrefl _ (Nat.lt_of_lt_of_le h1 hf)
    · exact I.nofs hf e
  cases hc : codeAmong pos ps.toList with
  | none =>
    refine PySem.W.kla_makeFunction (mg := X.mg) (c := c) (P := P) (ps := ps) (closure_ok hfreez) I.ok.glob (I.mod.glob.keeps I.bk) hcode (TB.code.keeps I.bk) hP' ht hc TB.gP bP fun c' ctv h' tk hxz hge hltz hrec htb => ?_
    obtain ⟨c2, oc, vs, t, e2, hoc, hd, hv⟩ := hrec
    cases e2
    have hsz : s.heap.objs.size ≤ h'.objs.size := Nat.le_trans hge (Nat.le_of_lt hltz)
    have nCz : H c' = none := I.hok.fresh hge
    have I1z := inv_table (t' := tk) (more := #[rawInt pos.line, rawInt pos.col, .ref c']) (h' := h'.push (PySem.W.kla_obj "<lambda>" (X.env.qual ++ "<lambda>") params body scope (cloFrom X.env.cells scope.names []) ((X.mg "__name__").getD .none) c' ctv)) I hP
      (fun b o hb e => Heap.get?_push_of_some _ (hxz b o hb e)) (Heap.get?_push_of_some _ htb) hge ⟨oc, vs, t, Heap.get?_push_of_some _ hoc, hd, hv⟩
    have hE : ExtN H (upd (upd H P (.tbl (ps ++ #[rawInt pos.line, rawInt pos.col, .ref c']))) c' (CodeO c' (X.env.qual ++ "<lambda>"))) := fun b o e n => by
      rw [upd_ne (ne_of_none e nCz), upd_ne (fun z => n ps (Option.some.inj (e.symm.trans (by rw [z]; exact hP))))]
      exact e
    have eL : (ps ++ #[rawInt pos.line, rawInt pos.col, .ref c']).toList = ps.toList ++ [rawInt pos.line, rawInt pos.col, .ref c'] := by simp
    refine h h'.objs.size c' ((X.mg "__name__").getD .none) ctv _ _ I1z hE (fun b e => ?_) (fun p hp => ?_) (Heap.get?_push_size _ rfl) ?_ (nofr _ hsz) upd_same
    · by_cases hb : b = c'
      · rw [hb, upd_same] at e; cases e
      · rw [upd_ne hb] at e
        by_cases hb2 : b = P
        · rw [hb2, upd_same] at e; cases e
        · rw [upd_ne hb2] at e; exact e
    · by_cases hb : p.1 = P
      · rw [hu p hp hb, hb]
        refine ⟨_, by rw [upd_ne (ne_of_none hP nCz), upd_same], by rw [eL]; exact PySem.TriplesOk_snoc _ _ _ _ ht, fun p' cv hcv => ?_⟩
        rw [eL] at hcv
        rcases among_app _ ht hcv with z | z
        · obtain ⟨c0, e1, e2⟩ := ha p' cv z
          exact ⟨c0, e1, hE _ _ e2 codeO_ne⟩
        · exact ⟨c', z, upd_same⟩
      · obtain ⟨ps', a1, a2, a3⟩ := hT p hp
        refine ⟨ps', by rw [upd_ne (ne_of_none a1 nCz), upd_ne hb]; exact a1, a2, fun p' cv hcv => ?_⟩
        obtain ⟨c0, e1, e2⟩ := a3 p' cv hcv
        exact ⟨c0, e1, hE _ _ e2 codeO_ne⟩
    · have n1 : h'.objs.size ≠ c' := Nat.ne_of_gt hltz
      have n2 : h'.objs.size ≠ P := Nat.ne_of_gt (Nat.lt_of_lt_of_le (Heap.lt_size hP') hsz)
      rw [upd_ne n1, upd_ne n2]
      exact I.hok.fresh hsz
  | some cv =>
    obtain ⟨c', e, hco⟩ := ha pos cv hc
    subst e
    refine PySem.W.kla_makeFunctionHit (mg := X.mg) (c := c) (P := P) (ps := ps) (closure_ok hfreez) I.ok.glob (I.mod.glob.keeps I.bk) hcode (TB.code.keeps I.bk) hP' ht hc bP fun ctv h' tk hxz hsz => ?_
    have I1z : Inv X pins σ H { s with heap := h'.push (PySem.W.kla_obj "<lambda>" (X.env.qual ++ "<lambda>") params body scope (cloFrom X.env.cells scope.names []) ((X.mg "__name__").getD .none) c' ctv), toks := tk } := I.kept fun b o e => Heap.get?_push_of_some _ (hxz b o e)
    exact h h'.objs.size c' ((X.mg "__name__").getD .none) ctv H _ I1z (ExtN.refl H) (fun _ e => e) hT (Heap.get?_push_size _ rfl) (I.hok.fresh hsz) (nofr _ hsz) hco
/-- x(), in the def that got the lambda: Z is that def's context, entered at s -/
theorem pe_actN {CXg : CXT} {Eg : XK} {Ng : List Str} {qg : Str} {sg : Scope} {g f c' : Addr} {cdg pm ctv : Value} {params : Arguments} {body : Expr} {scope : Scope} {k i : Nat} {a : Str} {pn : List (Addr × Obj)} {xe : Value → Shared → Prop} {W : WX} {E : XK} {tb : TE} {p1 p2 : Pos}
    (I : Inv X pins σ H s) (L : LamS X.env.scope scope) (hf : s.heap.get? f = some (PySem.W.kla_obj "<lambda>" (X.env.qual ++ "<lambda>") params body scope (cloFrom X.env.cells scope.names []) pm c' ctv)) (hfn : H f = none) (hfrz : f ∉ frs X.stack)
    (hbind : bindArgs (PySem.W.kla_fn "<lambda>" (X.env.qual ++ "<lambda>") params body scope (cloFrom X.env.cells scope.names []) pm (.ref c') ctv) ⟨[], []⟩ = pure [])
    (tk : L2N.Takes ((cxOf CXg X.prog X.w X.K X.mg X.base Ng qg sg g cdg X.A X.stack s H Eg).tr pn xe) W) (hW : ∀ cls d σ' H', E cls d H' → W cls d σ' H') (hr : Room (k + 1) (X.A.deeper (envOfC qg sg s.heap.objs.size g cdg)))
    (hbody : ∀ (A : Around) (outer : List Env) (s : Shared) (H : Hp), Room k (A.deeper (lamEnv X scope s.heap.objs.size f c')) → PE (lamCxN X A outer s H E scope f c') body tb)
    (hN : Ng[i]? = some a) (hv : Vis sg a) (hd : (a == ("__debug__" : Str)) = false := by decide) (hcd : (a == ("__classdict__" : Str)) = false := by decide) :
    PE ((cxOf CXg X.prog X.w X.K X.mg X.base Ng qg sg g cdg X.A X.stack s H Eg).tr pn xe) (.Call (.Name a p1) [] [] p2)
      (fun σZ HZ Q => σZ[i]? = some (some (.ref f)) ∧ HZ c' = some (CodeO c' (X.env.qual ++ "<lambda>")) ∧ tb σ HZ Q) := by
  refine ⟨fun pinsZ sZ σZ HZ Q IZ h => ?_⟩
  obtain ⟨hs, hc, ht⟩ := h
  refine wpAny_Call_Name_kw (thn ((pe_var (pos := p1) (i := i) hN hv hd hcd).run pinsZ sZ σZ HZ (fun v H1z => v = .ref f ∧ H1z = HZ) IZ ⟨.ref f, hs, rfl, rfl⟩) fun u s1z ⟨v, H1z, I1z, r1z, q1z⟩ => ?_)
  obtain ⟨ev, eH⟩ := q1z
  subst ev
  rw [eH] at I1z
  obtain rfl : u = Value.ref f := r1z
  have of1 : s1z.heap.get? f = some (PySem.W.kla_obj "<lambda>" (X.env.qual ++ "<lambda>") params body scope (cloFrom X.env.cells scope.names []) pm c' ctv) := I1z.base.keep f _ hf hfn hfrz (fun z => nomatch (show f ∈ ([] : List Addr) from z))
  refine PySem.W.callWith_F0 ⟨_, _, _, _, of1⟩ ?_
  have un : Un (frs X.stack) [] H HZ s.heap s1z.heap := I1z.base
  obtain ⟨⟨oc, vs, t, hoc, hdc, hvc⟩, _, _⟩ := I1z.hok c' _ hc
  have rc : codeAny (model X.prog X.w) (X.A.deeper (envOfC qg sg s.heap.objs.size g cdg)) (.call (.ref f) ⟨[], []⟩) (CR (L2N.CX X.prog X.w) (envOfC qg sg s.heap.objs.size g cdg :: X.stack) X.prog X.w HZ s1z Q E) s1z := by
    refine PySem.W.kla_callFunE hr.depth of1 rfl L.co L.gen rfl ⟨c', oc, vs, t, rfl, hoc, hdc, hvc⟩ ?_
    rw [hbind]
    refine wpAny_pure (wpAny_newFunctionEnv (fun y hy => (L.own y hy).2) (fun y hy => absurd hy (by simp)) (fun h₁ hns hsb => ⟨I1z.nolimit.fresh _ hsb, ?_⟩) L.kind)
    show codeAny _ _ (.expr body (lamEnv X scope s1z.heap.objs.size f c')) _ _
    have kpz : ∀ b o, s1z.heap.get? b = some o → h₁.get? b = some o := fun b o e => hsb.extBut b o (Nat.ne_of_lt (Heap.lt_size e)) (Heap.get?_push_of_some _ e)
    have Jz : Inv (lamCxN X (X.A.deeper (envOfC qg sg s.heap.objs.size g cdg)) (envOfC qg sg s.heap.objs.size g cdg :: X.stack) s1z HZ E scope f c') [] σ HZ { s1z with heap := h₁, toks := s1z.toks + ([] : List (Str × Value)).length } :=
      (lam_start2 (E := E) (f := f) (c' := c') I L I1z.env0 hr.hd un hns kpz).toTry _
    refine PySem.W.kla_codeExpr (wpAny_mono ((hbody _ _ s1z HZ (hr.deeper _)).run [] _ _ HZ Q Jz ht) (fun v s' hqz => ?_) fun e s' hqz => hqz)
    obtain ⟨w', H', Jz', rvz, q⟩ := hqz
    exact ⟨w', H', Jz'.os, Jz'.bare, Jz'.base, Jz'.hok, rvz, q⟩
  have hxz : Passes (L2N.CX X.prog X.w) ((cxOf CXg X.prog X.w X.K X.mg X.base Ng qg sg g cdg X.A X.stack s H Eg).tr pn xe) E := L2N.passes_call tk hW
  refine wpAny_call (codeAny_mono rc fun r s' hqz => ?_)
  cases r with
  | error e => exact hxz pinsZ σZ HZ s1z e s' I1z hqz
  | ok fl =>
    cases fl with
    | ret u => exact I1z.after hqz
    | next => exact False.elim hqz
    | brk => exact False.elim hqz
    | cont => exact False.elim hqz
end
/-- the def that calls what it got: a calls it; TT: what it makes of the lambda's reading -/
def GivesToN (X : Cx) (Ng : List Str) (x : Str) (sg : Scope) (g : Addr) (cdg : Value) (bg : List Stmt) (a : Str) (q : Str) (TT : (XK → Hp → VK → Prop) → Hp → VK → Prop) : Prop :=
  ∀ (f c' : Addr) (s : Shared) (H : Hp) (Q : VK) (tl : XK → Hp → VK → Prop),
    (∀ (W : WX) (pn : List (Addr × Obj)) (xe : Value → Shared → Prop) (E : XK) (p1 p2 : Pos), L2N.Takes ((cxOf C8.CX0 X.prog X.w X.K X.mg X.base Ng x sg g cdg X.A X.stack s H C8.E0).tr pn xe) W → (∀ cls d σ' H', E cls d H' → W cls d σ' H') →
      PE ((cxOf C8.CX0 X.prog X.w X.K X.mg X.base Ng x sg g cdg X.A X.stack s H C8.E0).tr pn xe) (.Call (.Name a p1) [] [] p2) (fun σZ HZ Q => σZ[0]? = some (some (.ref f)) ∧ HZ c' = some (CodeO c' q) ∧ tl E HZ Q)) →
    H c' = some (CodeO c' q) → TT tl H Q →
    ∃ t, PSs (cxOf C8.CX0 X.prog X.w X.K X.mg X.base Ng x sg g cdg X.A X.stack s H C8.E0).nox bg t ∧ t { nx := fun _ H' => Q .non H', rt := Q } (L2.start Ng [.ref f]) H
def tLamN (T : List (Addr × Str)) (TT : (XK → Hp → VK → Prop) → Hp → VK → Prop) (t : XK → TE) : TE := fun σ H Q => Tabs T H ∧ ∀ H1z, ExtN H H1z → (∀ b, H1z b = none → H b = none) → Tabs T H1z → TT (fun E H' Q' => t E σ H' Q') H1z Q
section
variable {X : Cx}
/-- x(lambda: body) -/
theorem pe_lamcallN {T : List (Addr × Str)} {TT : (XK → Hp → VK → Prop) → Hp → VK → Prop} {x a : Str} {g c P : Addr} {k : Nat} {pgz : Arguments} {bg : List Stmt} {sg : Scope} {dV kV doc pm cdv ct oc : Value} {an od : Option Addr} {osl : Array (Option Value)} {Ng : List Str}
    {params : Arguments} {body : Expr} {scope : Scope} {t : XK → TE} {p lpos pos : Pos} (hg : Gl X x) (hmz : X.mg x = some (.ref g)) (hk : PySem.W.keepIn X.K (.ref g) = true)
    (lk : X.K.lookup g = some ⟨oc, od, .func (PySem.W.fnOf x x pgz bg sg dV kV doc pm an cdv ct), osl⟩) (hcg : PySem.W.codeIn X.K cdv x = true) (hb : L2.Binds X.K (PySem.W.fnOf x x pgz bg sg dV kV doc pm an cdv ct) [a] []) (Sg : FnScope Ng [a] sg) (hNg : Ng[0]? = some a) (hva : Vis sg a)
    (hG : GivesToN X Ng x sg g cdv bg a (X.env.qual ++ "<lambda>") TT)
    (TB : TabB X.base X.mg c P) (hcode : X.env.code = .ref c) (hmT : (P, X.env.qual ++ "<lambda>") ∈ T) (hu : ∀ p ∈ T, p.1 = P → p.2 = X.env.qual ++ "<lambda>") (hr : Room (k + 2) X.A) (L : LamS X.env.scope scope) (hdef : defaultsOf params X.env = ([], []))
    (hbind : ∀ (q : Str) (cl : List (Str × Addr)) (pm cv ctv : Value), bindArgs (PySem.W.kla_fn "<lambda>" q params body scope cl pm cv ctv) ⟨[], []⟩ = pure [])
    (hbody : ∀ (A : Around) (outer : List Env) (s : Shared) (H : Hp) (E : XK) (f c' : Addr), Room k (A.deeper (lamEnv X scope s.heap.objs.size f c')) → PE (lamCxN X A outer s H E scope f c') body (t E))
    (hdb : (x == ("__debug__" : Str)) = false := by decide) (hd : (a == ("__debug__" : Str)) = false := by decide) (hcd : (a == ("__classdict__" : Str)) = false := by decide) :
    PE X (.Call (.Name x p) [.Lambda params body scope lpos] [] pos) (tLamN T TT t) := by
  refine ⟨fun pins s σ H Q I h => ?_⟩
  obtain ⟨hT, h⟩ := h
  refine wpAny_Call_Name_kw (ld_glob I hg hmz ?_ hdb)
  refine PySem.W.callWith_K (h₀ := X.base) I.ok.mod.kin hk ?_ (by rfl) (by rfl)
  show wpAny _ _ (spliced ((false, eval (.Lambda params body scope lpos) X.env) :: backTo pos (starEach [] X.env))) _ _ s
  refine Calls.spliced_cons (lam_make3 I TB hcode hmT hu hT hdef (L.has I.ok) fun f c' pm' ctv H1z s' I1z eN nn T1 hf hfn hfrz hco => ?_)
  refine Calls.spliced_nil ⟨I1z.kIn, ?_⟩
  have rc : codeAny (model X.prog X.w) X.A (.call (.ref g) ⟨[.ref f], []⟩) (CR C8.CX0 X.stack X.prog X.w H1z s' Q C8.E0) s' := by
    refine run_ofS (N := Ng) (ps := [a]) (us := [.ref f]) (vs := [.ref f]) lk hcg Sg hr I1z.env0 (hb s' [.ref f] I1z.kIn rfl) (.cons rfl .nil) rfl fun hr' => ?_
    obtain ⟨t', ht', hq'⟩ := hG f c' s' H1z Q (fun E H' Q' => t E σ H' Q') (fun W pn xe E p1 p2 tk hW => pe_actN (i := 0) I1z L hf hfn hfrz (hbind _ _ _ _ _) tk hW hr' (fun A outer s H hr2 => hbody A outer s H E f c' hr2) hNg hva hd hcd) hco (h H1z eN nn T1)
    exact ⟨t', ht'.nox, hq'⟩
  refine wpAny_call (codeAny_mono rc fun r s2z hqz => ?_)
  cases r with
  | error e => exact (show False from hqz).elim
  | ok fl =>
    cases fl with
    | ret u => exact I1z.after hqz
    | next => exact False.elim hqz
    | brk => exact False.elim hqz
    | cont => exact False.elim hqz
end
end LamN

set_option maxRecDepth 100000
set_option maxHeartbeats 4000000
/-! # an own exception with its own __init__, raised where nothing is handled -/
namespace ExN
open PySem PySem.Spec PyProof.Rows L2
section
variable {X : Cx} {e : Expr} {es : List Expr} {ta : TA} {p p1 p2 pos : Pos}
theorem pmk_oexN {CX : CXT} {x : Str} {C fI : Addr} {k : Nat} {fd : FuncData} {ps : List Str} {sp : Sp} {ds : List Value} {dvs : List V} (T : OexC X.K C) (iC : PySem.W.findIn X.K (.ref C) "__init__" = some (some (.ref fI))) (tI : PySem.W.typeIn X.K (.ref fI) = some (.type "function"))
    (F1 : FnOk X.prog X.w X.K X.mg X.base CX k fI fd ps sp) (hr : Room (k + 1) X.A) (hb : Binds X.K fd ps ds) (hd : Vals dvs ds) (hxz : Passes CX X (fun _ _ _ => False)) (hg : Gl X x) (hmz : X.mg x = some (.ref C)) (ha : PA X (e :: es) ta)
    (hdb : (x == ("__debug__" : Str)) = false := by decide) (he : starEach (e :: es) X.env = (false, eval e X.env) :: starEach es X.env := by rfl) (hpl : (backTo pos (starEach es X.env)).any (·.1) = false := by rfl) :
    L2N.PMk X (.Call (.Name x p) (e :: es) [] pos) (tMkO C sp dvs ta) := by
  intro pins s σ H Q I h
  obtain ⟨nm, q, N, bs, bm, sn, sub, ab, col, dd, k0, k1z, k2z, k3, k5, hC, hbm⟩ := T.cls
  refine wpAny_Call_Name_kw (ld_glob I hg hmz ?_ hdb)
  refine PySem.W.callWith_K (h₀ := X.base) I.ok.mod.kin T.kC (thn (ha.run pos pins s σ H _ I h) fun us s1z ⟨vs, H1z, I1z, r1z, hzz, q1z⟩ => ⟨I1z.kIn, ?_⟩) he hpl
  show wpAny _ _ (call (.ref C) us) _ _ _
  obtain ⟨hp, g, dr, tk, osz⟩ := s1z
  have hsz : hp.objs.size ≤ hp.objs.size + 1 := Nat.le_succ _
  have hnz : H1z (hp.objs.size + 1) = none := I1z.hok.fresh hsz
  have hqz := q1z (hp.objs.size + 1) hnz
  have kk : ∀ b o, hp.get? b = some o → ((hp.push (PySem.W.kdv_tup us)).push (PySem.HandSPX.excO C hp.objs.size)).get? b = some o := fun b o e => Heap.get?_push_of_some _ (Heap.get?_push_of_some _ e)
  have hget : ((hp.push (PySem.W.kdv_tup us)).push (PySem.HandSPX.excO C hp.objs.size)).get? (hp.objs.size + 1) = some (PySem.HandSPX.excO C hp.objs.size) := by heap_get
  have I2z : Inv X pins σ (upd H1z (hp.objs.size + 1) (exo (hp.objs.size + 1) C none)) ⟨(hp.push (PySem.W.kdv_tup us)).push (PySem.HandSPX.excO C hp.objs.size), g, dr, tk, osz⟩ :=
    I1z.laid (t' := tk) (a := hp.objs.size + 1) (o := exo (hp.objs.size + 1) C none) (h' := (hp.push (PySem.W.kdv_tup us)).push (PySem.HandSPX.excO C hp.objs.size)) kk hsz (exo_ok hget)
  have r2 : Vals (V.ref (hp.objs.size + 1) :: (vs ++ dvs)) (Value.ref (hp.objs.size + 1) :: (us ++ ds)) := .cons rfl (r1z.append hd)
  have hlz : (Value.ref (hp.objs.size + 1) :: us ++ ds).length = ps.length := by
    have e := r2.length
    rw [F1.len _ _ _ _ hqz] at e
    exact e.symm
  have hus : us.length ≤ sizeLine := by
    rw [← Paired.length r1z, sizeLine_eq]
    omega
  refine wpAny_call (PySem.HandSPX.call_own F.excBase_ValueError (fun Y => PySem.HandSPX.refsVE_contains Y bm hbm) (I1z.kIn _ _ hC) (PySem.W.looks_findIn I1z.kIn iC) (fun self => PySem.W.bind_fn I1z.kIn self tI) hus
    (codeAny_mono (F1.run _ X.stack _ _ ⟨Value.ref (hp.objs.size + 1) :: us, []⟩ (Value.ref (hp.objs.size + 1) :: (us ++ ds)) _ _ (fun _ _ _ => False) (hr.make C us []) (I2z.env0.make C us []) (hb _ (Value.ref (hp.objs.size + 1) :: us) I2z.kIn hlz) r2 hqz) fun r s' hq' => ?_))
  cases r with
  | error er => exact hxz pins σ _ _ er s' I2z hq'
  | ok fl =>
    cases fl with
    | ret u =>
      obtain ⟨v, H2z, os2, bare2, un2, hok2, rvz, ev, d, fs, ea, ed, hd1, q2⟩ := hq'
      subst ev
      obtain ⟨h2, g2, d2, t2, os'⟩ := s'
      obtain ⟨t0, G, Jz, kG, ge, hoe, naz⟩ := mk_end0 (d2 := d2) (t2 := t2) I1z hsz kk un2 hok2 os2 bare2 ea ed hd1
      refine ⟨rvz, hp.objs.size + 1, _, _, ⟨G, g2, d2, t2, os'⟩, _, .ref C, some d, rfl, Jz, kG, ge, hoe, ⟨rfl, rfl, fun vs hv => ?_⟩, rfl, rfl, naz, rfl, bare2, raises_own T.exC T.tyC, q2⟩
      cases hv
      rfl
    | next => exact False.elim hq'
    | brk => exact False.elim hq'
    | cont => exact False.elim hq'

/-- B.__init__(self, ..), B an own class over ValueError without own __init__ -/
theorem pe_ownInit {Cs : Addr} {mc : Value} {x : Str} {pl : Sem Bool} (hg : Gl X x) (hm : X.mg x = some (.ref Cs)) (hdb : (x == ("__debug__" : Str)) = false) (rd : ClX.CRead X.K Cs mc) (vV : PySem.W.findCls X.K (.ref Cs) mc "__init__" = some (.val (.builtin "ValueError.__init__"))) (ha : PA X (e :: es) ta)
    (hc : eval (.Call (.Attribute (.Name x p1) "__init__" p2) (e :: es) [] pos) X.env = (do
      let ov ← eval (.Name x p1) X.env
      standAt p2.atName
      let (f, first) ← holding [ov] (getMethod ov "__init__" pl)
      callWith pos f first (backTo pos (starEach (e :: es) X.env)) (backToKw pos (keywordEach [] X.env))) := by rfl)
    (he : starEach (e :: es) X.env = (false, eval e X.env) :: starEach es X.env := by rfl) (hpl : (backTo pos (starEach es X.env)).any (·.1) = false := by rfl) :
    PE X (.Call (.Attribute (.Name x p1) "__init__" p2) (e :: es) [] pos) (tVeI X.K ta) := by
  refine ⟨fun pins t σ H Q J hq => ?_⟩
  refine PySem.W.methodCall_KW (ld_glob J hg hm ?_ hdb) hc
  refine PySem.W.method_cls J.kIn rd.ga (PySem.W.cls_value J.kIn rd.rd vV (by decide +kernel) ?_)
  show wpAny _ _ (callWith pos (Value.builtin "ValueError.__init__") [] (backTo pos (starEach (e :: es) X.env)) []) _ _ _
  refine PyProof.Rows.callWith_method1 (thn (ha.run pos pins _ σ H _ (J.tok _) hq) fun us t1 ⟨vs, Hb, Jb, rb, a, C, ws, ev, hl, T, ea, q⟩ => ?_) he hpl
  subst ev
  cases rb with
  | @cons _ u0 _ ur ra rw' =>
    obtain rfl : u0 = Value.ref a := ra
    have hlen : ur.length ≤ sizeLine := by
      rw [← Paired.length rw', sizeLine_eq]
      omega
    exact oinit_ok T Jb ea hlen fun t' J' => ⟨.non, Hb, J', rfl, q⟩
end
/-! ### __init__(self, limit): B.__init__(self, text + str(limit)); self.limit = limit -/
def spTM (K : PySem.W.Frag) : Sp := fun vs H Q _ => ∃ (a C : Addr) (i : Int), vs = [.ref a, .int i] ∧ OexC K C ∧ PySem.W.findIn K (.ref C) "limit" = some none ∧ i.natAbs < 2 ^ 64 ∧ H a = some (exo a C none) ∧
  ∀ dx, H dx = none → dx ≠ a → Q .non (upd (upd H dx (exd dx [("limit", .int i)])) a (exo a C (some dx)))
end ExN

set_option maxRecDepth 100000
set_option maxHeartbeats 4000000
/-! # a def called with the handled exception itself -/
namespace HotP
open PySem PySem.Spec PyProof.Rows L2 HotX L2H HotY
abbrev St := L2.St
/-- sp is told of the handled exception -/
structure FnP (P : Program) (w : World) (K : PySem.W.Frag) (mg : Str → Option Value) (base : Heap) (CX : CXT) (k : Nat) (f : Addr) (fd : FuncData) (ps : List Str) (sp : Addr × Obj → Sp) : Prop where
  len : ∀ p vs H Q E, sp p vs H Q E → vs.length = ps.length
  run : ∀ (A : Around) (outer : List Env) (t : Shared) (H : Hp) (args : Args) (us : List Value) (vs : List V) (Q : VK) (E : XK) (p : Addr × Obj), RoomH k A → Hot1 A p → PinOk outer H t p → Env0 P w K mg base A outer t H → BindsTo t fd args (ps.zip us) → Vals vs us → sp p vs H Q E →
    codeAny (model P w) A (.call (.ref f) args) (CR CX outer P w H t Q E) t
theorem hotS_cxH {CX : CXT} {P : Program} {w : World} {K : PySem.W.Frag} {mg : Str → Option Value} {base : Heap} {N : List Str} {qual : Str} {scope : Scope} {f : Addr} {cd : Value} {A : Around} {outer : List Env} {t : Shared} {H : Hp} {E : XK} {p : Addr × Obj}
    (hot : Hot1 A p) (hpin : PinOk outer H t p) : HotS (cxH CX P w K mg base N qual scope f cd A outer t H E p) :=
  let ⟨h1, vs, h2, h3⟩ := hot
  ⟨p.1, p.2, vs, h1, hpin.get, h2, h3, hpin.free, hpin.nofs, fun z => absurd (show p.1 ∈ ([] : List Addr) from z) (by simp)⟩
theorem fn_ofP {CX : CXT} {P : Program} {w : World} {K : PySem.W.Frag} {mg : Str → Option Value} {base : Heap} {k : Nat} {f : Addr} {name qual : Str} {params : Arguments} {body : List Stmt} {scope : Scope} {dV kV doc pm cdv ct oc : Value} {an od : Option Addr}
    {osl : Array (Option Value)} {N ps : List Str} {sp : Addr × Obj → Sp} (lk : K.lookup f = some ⟨oc, od, .func (PySem.W.fnOf name qual params body scope dV kV doc pm an cdv ct), osl⟩) (hcd : PySem.W.codeIn K cdv qual = true) (S : FnScope N ps scope)
    (len : ∀ p vs H Q E, sp p vs H Q E → vs.length = ps.length)
    (hbody : ∀ (A : Around) (outer : List Env) (s : Shared) (H : Hp) (vs : List V) (Q : VK) (E : XK) (p : Addr × Obj), Hot1 A p → PinOk outer H s p → RoomH k (A.deeper (envOfC qual scope s.heap.objs.size f cdv)) → sp p vs H Q E →
      ∃ t, PSs (cxH CX P w K mg base N qual scope f cdv A outer s H E p) body t ∧ t { nx := fun _ H' => Q .non H', rt := Q } (L2.start N vs) H) :
    FnP P w K mg base CX (k + 1) f (PySem.W.fnOf name qual params body scope dV kV doc pm an cdv ct) ps sp := by
  refine ⟨len, fun A outer s H args us vs Q E p hr hot hpin e0 hb r hspz => ?_⟩
  have hlz := len _ _ _ _ _ hspz
  have KX : K.In s.heap := e0.mod.kin.keeps fun b o e => (e0.bs b o e).1
  have lim : s.heap.NoLimit := e0.mod.nolimit.keeps fun b o e => (e0.bs b o e).1
  have hkind : ∀ y ∈ ps.zip us, scope.names.lookup y.1 = some .local ∨ (scope.names.lookup y.1 = some .cell ∧ ((cellsFrom (s.heap.objs.size + 1) scope.names []).lookup y.1).isSome = true) := fun ⟨n, v⟩ hy => by
    rcases S.par n (List.of_mem_zip hy).1 with q | q
    · exact .inl q
    · exact .inr ⟨q, PySem.W.cellsFrom_some _ _ _ (.inl q)⟩
  refine codeAny_call_function hr.depth (KX _ _ lk) rfl S.co S.gen rfl (PySem.W.codeRec_of KX hcd) (hb _ _ _ _ ?_)
  refine wpAny_newFunctionEnv_cells S.kind hkind fun env he s1z x => ?_
  subst he
  refine ⟨lim.keeps x.toInCall.keep, codeAny_func ?_⟩
  obtain ⟨t, ht, hqz⟩ := hbody A outer s H vs Q E p hot hpin (hr.deeper _) hspz
  have I : Inv (cxH CX P w K mg base N qual scope f cdv A outer s H E p) [] (L2.start N vs) H s1z := inv_startH S hpin e0 hlz r x
  refine wpAny_mono (ht.run [] s1z (L2.start N vs) H _ I hqz) (fun fl s' hs => ?_) fun e s' hs => hs
  have finz : ∀ {σ' : St} {H' : Hp} {v : V} {u : Value}, Inv (cxH CX P w K mg base N qual scope f cdv A outer s H E p) [] σ' H' s' → RelV v u → Q v H' → CE outer P w H s Q u s' :=
    fun {σ' H' v u} Jz rvz q => ⟨v, H', Jz.os, Jz.bare, Jz.base, Jz.hok, rvz, q⟩
  cases fl with
  | ret u =>
    obtain ⟨v, σ', H', Jz, rvz, q⟩ := hs
    exact finz Jz rvz q
  | next =>
    obtain ⟨σ', H', Jz, q⟩ := hs
    exact finz (v := V.non) (u := Value.none) Jz rfl q
  | brk =>
    obtain ⟨_, _, _, q⟩ := hs
    exact False.elim q
  | cont =>
    obtain ⟨_, _, _, q⟩ := hs
    exact False.elim q

section
variable {X : Cx} {CX : CXT} {k : Nat} {f C : Addr} {fd : FuncData} {ps : List Str} {p : Addr × Obj} {sp : Addr × Obj → Sp} {E : St → XK} {x m : Str} {q pos apos : Pos} {e o : Expr} {es : List Expr} {ta : TE} {t : TA}
theorem run_fnP {pins : List (Addr × Obj)} {σ : St} {H : Hp} {s : Shared} {Q : VK} {us : List Value} {vs : List V} (F : FnP X.prog X.w X.K X.mg X.base CX k f fd ps sp) (hr : RoomH k X.A) (hot : Hot1 X.A p) (hp : p ∈ X.pn) (hb : Binds X.K fd ps []) (hxz : PassesAt CX X σ (E σ))
    (I : Inv X pins σ H s) (r : Vals vs us) (h : sp p vs H Q (E σ)) : wpAny (model X.prog X.w) X.A (call (.ref f) us) (EP X pins σ Q) X.xe s := by
  have hlz : us.length = ps.length := by rw [← r.length]; exact F.len _ _ _ _ _ h
  have b := hb s us I.kIn (by rw [List.append_nil]; exact hlz)
  rw [List.append_nil] at b
  have P1 := I.pin p (List.mem_append_left _ hp)
  have hpin : PinOk X.stack H s p := ⟨P1.1, P1.2.1, fun hmz => (List.mem_cons.mp (I.stkSub p.1 hmz)).elim P1.2.2.1 P1.2.2.2.1, P1.2.2.2.2⟩
  refine wpAny_call (codeAny_mono (F.run X.A X.stack s H ⟨us, []⟩ us vs Q (E σ) p hr hot hpin I.env0 b r h) fun r s' hqz => ?_)
  cases r with
  | error e => exact hxz pins H s e s' I hqz
  | ok fl =>
    cases fl with
    | ret u => exact I.after hqz
    | next => exact False.elim hqz
    | brk => exact False.elim hqz
    | cont => exact False.elim hqz
theorem pe_callP (F : FnP X.prog X.w X.K X.mg X.base CX k f fd ps sp) (hr : RoomH k X.A) (hot : Hot1 X.A p) (hp : p ∈ X.pn) (hg : Gl X x) (hmz : X.mg x = some (.ref f)) (hk : PySem.W.keepIn X.K (.ref f) = true) (hb : Binds X.K fd ps []) (hxz : ∀ σ, PassesAt CX X σ (E σ))
    (ha : PA X (e :: es) t) (hdb : (x == ("__debug__" : Str)) = false := by decide) (he : starEach (e :: es) X.env = (false, eval e X.env) :: starEach es X.env := by rfl) (hpl : (backTo pos (starEach es X.env)).any (·.1) = false := by rfl) :
    PE X (.Call (.Name x q) (e :: es) [] pos) (tCallS (sp p) E t) := by
  refine ⟨fun pins s σ H Q I h => ?_⟩
  refine wpAny_Call_Name_kw (ld_glob I hg hmz ?_ hdb)
  refine PySem.W.callWith_K (h₀ := X.base) I.ok.mod.kin hk (thn (ha.run pos pins s σ H _ I h) fun us s1z ⟨vs, H1z, I1z, r, q⟩ => ⟨I1z.kIn, ?_⟩) he hpl
  exact run_fnP F hr hot hp hb (hxz σ) I1z r q

/-- isinstance(e, c), e the handled exception -/
theorem call_isP {D : Addr} (hp : p ∈ X.pn) (C : ExcC X.K D) (hz : Zc (.ref D) none p.2) (hf : ∃ vs, p.2.data = .fields vs) : CallR X (.builtin "isinstance") (rIsE X.K D p.1) := by
  intro pins t σ H xs us Q J r hq
  obtain ⟨c, cv, b, rfl, hcv, e, q⟩ := hq
  match r with
  | .cons rx (.cons rt .nil) =>
    cases rx
    have ec := hcv _ rt
    subst ec
    obtain ⟨hget, _⟩ := J.pin p (List.mem_append.mpr (.inl hp))
    obtain ⟨vs, hv⟩ := hf
    have JI : PySem.W.InstAt t.heap p.1 p.2 D none := by
      obtain ⟨a0, oc, od, oda, osl⟩ := p
      obtain ⟨e1, e2⟩ := hz
      dsimp only at e1 e2 hv
      subst e1 e2 hv
      exact ⟨hget, rfl, rfl, trivial⟩
    exact PySem.W.kia_one (PySem.W.handS_kitx_exc C.hg C.hk C.hs C.hd C.ha C.hn C.ht C.hm) J.kIn JI e (fun z => nomatch z) fun tk => ⟨.bl b, H, J.kept (t' := tk) fun _ _ z => z, rfl, q⟩
end
end HotP

set_option maxRecDepth 100000
set_option maxHeartbeats 4000000
/-! # Reading a def by plain data: the data, the cells of a def's slots, what the heap holds of them -/
namespace Rf
open PySem PySem.Spec PyProof.Rows L2

abbrev D := PyData
abbrev St := L2.St
/-- an error of the program's own -/
inductive Exc where
  | own (name : Str)
  | many (limit : Int)
/-- what a slot holds: data that never changes; a list of the def's own that it may change; a list that the caller lent -/
inductive C where
  | dat (d : D) | own (l : List D) | ref (l : List D) | dct (ks : List (List Int)) | raw (v : V) | rel (k : Nat) (d : D)
abbrev Rho := List (Option C)
inductive O (α : Type) where
  | ok (a : α) (ρ : Rho) | ex (e : Exc) (ρ : Rho) | no
def O.bind {α β : Type} (x : O α) (f : α → Rho → O β) : O β := match x with
  | .ok a ρ => f a ρ
  | .ex e ρ => .ex e ρ
  | .no => .no
/-- what a def gives: its value (or error) and the lent lists as they are then -/
inductive FR where
  | ret (d : D) (cs : List C) | retO (l : List D) (cs : List C) | retK (ks : List (List Int)) (cs : List C) | retV (k : Nat) (d : D) (cs : List C) | exc (e : Exc) (cs : List C) | no
abbrev FSem := List C → FR

/-! ### data in the heap -/
end Rf
namespace L2
open PySem PySem.Spec PyProof.Rows
mutual
theorem Dp.up {K : PySem.W.Frag} {G G' : Hp} (h : ∀ b o, G b = some o → G' b = some o) : ∀ {v : V} {d : PyData}, Dp K G v d → Dp K G' v d
  | _, _, .non => .non
  | _, _, .bl b => .bl b
  | _, _, .int i => .int i
  | _, _, .str x => .str x
  | _, _, .lst s a => .lst (s.imp (fun r => r.imp (h _ _) fun ⟨o, q⟩ => ⟨o, h _ _ q⟩) id) (DpAll.up h a)
  | _, _, .tup s a => .tup (s.imp (fun r => r.imp (h _ _) fun ⟨o, q⟩ => ⟨o, h _ _ q⟩) id) (DpAll.up h a)
theorem DpAll.up {K : PySem.W.Frag} {G G' : Hp} (h : ∀ b o, G b = some o → G' b = some o) : ∀ {vs : List V} {ds : List PyData}, DpAll K G vs ds → DpAll K G' vs ds
  | _, _, .nil => .nil
  | _, _, .cons a b => .cons (Dp.up h a) (DpAll.up h b)
end
section
variable {K : PySem.W.Frag} {G : Hp}
theorem DpAll.length : ∀ {vs : List V} {ds : List PyData}, DpAll K G vs ds → vs.length = ds.length
  | _, _, .nil => rfl
  | _, _, .cons _ b => by rw [List.length_cons, List.length_cons, DpAll.length b]
theorem DpAll.get : ∀ {vs : List V} {ds : List PyData} {i : Nat} {d : PyData}, DpAll K G vs ds → ds[i]? = some d → ∃ v, vs[i]? = some v ∧ Dp K G v d
  | _, _, _, _, .nil, e => by simp at e
  | _, _, 0, _, .cons a _, e => by simp at e; subst e; exact ⟨_, rfl, a⟩
  | _, _, i + 1, d, .cons _ b, e => by
    obtain ⟨v, h1, h2⟩ := DpAll.get (i := i) (d := d) b (by simpa using e)
    exact ⟨v, by simpa using h1, h2⟩
theorem DpAll.append : ∀ {vs ws : List V} {ds es : List PyData}, DpAll K G vs ds → DpAll K G ws es → DpAll K G (vs ++ ws) (ds ++ es)
  | _, _, _, _, .nil, b => b
  | _, _, _, _, .cons a r, b => .cons a (DpAll.append r b)
theorem DpAll.take : ∀ {vs : List V} {ds : List PyData} (n : Nat), DpAll K G vs ds → DpAll K G (vs.take n) (ds.take n)
  | _, _, 0, _ => .nil
  | _, _, _ + 1, .nil => .nil
  | _, _, n + 1, .cons a r => .cons a (DpAll.take n r)
theorem DpAll.drop : ∀ {vs : List V} {ds : List PyData} (n : Nat), DpAll K G vs ds → DpAll K G (vs.drop n) (ds.drop n)
  | _, _, 0, a => a
  | _, _, _ + 1, .nil => .nil
  | _, _, n + 1, .cons _ r => DpAll.drop n r
theorem DpAll.set : ∀ {vs : List V} {ds : List PyData} {v : V} {d : PyData} (n : Nat), Dp K G v d → DpAll K G vs ds → DpAll K G (vs.set n v) (ds.set n d)
  | _, _, _, _, _, _, .nil => .nil
  | _, _, _, _, 0, h, .cons _ r => .cons h r
  | _, _, _, _, n + 1, h, .cons a r => .cons a (DpAll.set n h r)
theorem DpAll.reverse {vs : List V} {ds : List PyData} (h : DpAll K G vs ds) : DpAll K G vs.reverse ds.reverse := by
  induction vs generalizing ds with
  | nil => cases h; exact .nil
  | cons v vs ih =>
    cases h with
    | cons a r => rw [List.reverse_cons, List.reverse_cons]; exact DpAll.append (ih r) (.cons a .nil)
theorem DpAll.rep {vs : List V} {ds : List PyData} (h : DpAll K G vs ds) : ∀ k : Nat, DpAll K G (List.replicate k vs).flatten (List.replicate k ds).flatten
  | 0 => by simp; exact .nil
  | k + 1 => by
    rw [List.replicate_succ, List.replicate_succ, List.flatten_cons, List.flatten_cons]
    exact DpAll.append h (DpAll.rep h k)
theorem DpAll.nil_iff {vs : List V} {ds : List PyData} (h : DpAll K G vs ds) : vs = [] ↔ ds = [] := by
  cases h <;> simp
theorem DpAll.ints : ∀ {vs : List V} {ns : List Int}, DpAll K G vs (ns.map PyData.int) → vs = ns.map V.int
  | vs, [], h => by cases h; rfl
  | vs, n :: ns, h => by
    cases h with
    | cons a r =>
      cases a
      rw [DpAll.ints r]; rfl
theorem DpAll.of_ints : ∀ (ns : List Int), DpAll K G (ns.map V.int) (ns.map PyData.int)
  | [] => .nil
  | n :: ns => .cons (.int n) (DpAll.of_ints ns)
theorem DpAll.strs : ∀ {vs : List V} {ns : List Str}, DpAll K G vs (ns.map PyData.str) → vs = ns.map V.str
  | vs, [], h => by cases h; rfl
  | vs, n :: ns, h => by
    cases h with
    | cons a r =>
      cases a
      rw [DpAll.strs r]; rfl
theorem DpAll.of_strs : ∀ (ns : List Str), DpAll K G (ns.map V.str) (ns.map PyData.str)
  | [] => .nil
  | n :: ns => .cons (.str n) (DpAll.of_strs ns)
end

end L2
namespace Rf
open PySem PySem.Spec PyProof.Rows L2
/-! ### a def's situation: what its caller left, what it may change -/
/-- a dict whose keys are tuples of ints, each with True -/
def dkOf (ks : List (List Int)) : HO := .dT (ks.map fun k => (k.map Sum.inl, V.bl true))
theorem dk_tbl {ks : List (List Int)} : ∀ ps, dkOf ks ≠ .tbl ps := fun ps z => by unfold dkOf at z; cases z
theorem dk_lst {ks : List (List Int)} : ∀ xs, dkOf ks ≠ .lst xs := fun ps z => by unfold dkOf at z; cases z
/-- what is the same through a whole run: the written part, what stays true as long as nothing but lists change, how an error lies -/
structure Bs where
  K : PySem.W.Frag
  J : Hp → Prop
  js : ∀ H H', J H → (∀ b o, H b = some o → (∀ xs, o ≠ .lst xs) → (∀ ks, o ≠ dkOf ks) → H' b = some o) → J H'
  EX : Exc → Value → Option Addr → Hp → Prop
  RV : Nat → PyData → Hp → V → Prop
  rs : ∀ {k d G G' v}, (∀ b o, G b = some o → G' b = some o) → RV k d G v → RV k d G' v
/-- W: what may change -/
structure Sit where
  W : Addr → Prop
  H0 : Hp
  G0 : Hp
  σ0 : St
  ρ0 : Rho
  wn : ∀ a, H0 a = none → W a
def Hd (ρ : Rho) (i : Nat) (l : List D) : Prop := ρ[i]? = some (some (.own l)) ∨ ρ[i]? = some (some (.ref l))
def szO : HO → Prop
  | .lst xs => xs.length ≤ sizeLine
  | .tup xs => xs.length ≤ sizeLine
  | .frz _ u => szO u
  | _ => True
structure EnvOk (B : Bs) (S : Sit) (ρ : Rho) (σ : St) (H G : Hp) : Prop where
  sub : ∀ b o, G b = some o → H b = some o
  nt : ∀ b ps, G b ≠ some (.tbl ps)
  sz : ∀ b o, G b = some o → szO o
  j : B.J H
  keep : ∀ b o, S.H0 b = some o → ¬ S.W b → (∀ ps, o ≠ .tbl ps) → H b = some o
  there : ∀ b, H b = none → S.H0 b = none
  gsub : ∀ b o, S.G0 b = some o → G b = some o
  gnew : ∀ b o, G b = some o → S.G0 b = some o ∨ S.W b
  len : ρ.length = σ.length
  dat : ∀ (i : Nat) (d : D), ρ[i]? = some (some (.dat d)) → ∃ v, σ[i]? = some (some v) ∧ Dp B.K G v d
  dct : ∀ (i : Nat) (ks : List (List Int)), ρ[i]? = some (some (.dct ks)) → ∃ a, σ[i]? = some (some (.ref a)) ∧ H a = some (dkOf ks) ∧ G a = none ∧ S.W a
  raw : ∀ (i : Nat) (v : V), ρ[i]? = some (some (.raw v)) → σ[i]? = some (some v)
  rel : ∀ (i k : Nat) (d : D), ρ[i]? = some (some (.rel k d)) → ∃ v, σ[i]? = some (some v) ∧ B.RV k d G v
  dnq : ∀ (i j : Nat) (ks ks' : List (List Int)), ρ[i]? = some (some (.dct ks)) → ρ[j]? = some (some (.dct ks')) → i = j
  held : ∀ (i : Nat) (l : List D), Hd ρ i l → ∃ a vs, σ[i]? = some (some (.ref a)) ∧ H a = some (.lst vs) ∧ G a = none ∧ DpAll B.K G vs l ∧ S.W a ∧ vs.length ≤ sizeLine
  ref : ∀ (i : Nat) (l : List D), ρ[i]? = some (some (.ref l)) → σ[i]? = S.σ0[i]? ∧ ∃ l0, S.ρ0[i]? = some (some (.ref l0))
  sep : ∀ (i j : Nat) (l m : List D), i ≠ j → Hd ρ i l → Hd ρ j m → σ[i]? ≠ σ[j]?
  isref : ∀ (i : Nat) (l : List D), S.ρ0[i]? = some (some (.ref l)) → ∃ l', ρ[i]? = some (some (.ref l'))
section
variable {B : Bs} {S : Sit} {ρ : Rho} {σ : St} {H G H' G' : Hp}
/-- the heap grows, the known part too -/
theorem EnvOk.grow (E : EnvOk B S ρ σ H G) (k : ∀ b o, H b = some o → (∀ ps, o ≠ .tbl ps) → H' b = some o) (th : ∀ b, H' b = none → H b = none)
    (gs : ∀ b o, G b = some o → G' b = some o) (gn : ∀ b o, G' b = some o → G b = some o ∨ H b = none) (su : ∀ b o, G' b = some o → H' b = some o) (nt : ∀ b ps, G' b ≠ some (.tbl ps)) (sz : ∀ b o, G' b = some o → szO o) (j : B.J H') : EnvOk B S ρ σ H' G' where
  sub := su
  nt := nt
  sz := sz
  j := j
  keep := fun b o e w n => k b o (E.keep b o e w n) n
  there := fun b e => E.there b (th b e)
  gsub := fun b o e => gs b o (E.gsub b o e)
  gnew := fun b o e => by
    rcases gn b o e with h | h
    · exact E.gnew b o h
    · exact .inr (S.wn b (E.there b h))
  len := E.len
  dat := fun i d e => let ⟨v, h1, h2⟩ := E.dat i d e; ⟨v, h1, Dp.up gs h2⟩
  dct := fun i ks e => by
    obtain ⟨a, h1, h2, h3, h4⟩ := E.dct i ks e
    refine ⟨a, h1, k a _ h2 dk_tbl, ?_, h4⟩
    cases q : G' a with
    | none => rfl
    | some o =>
      rcases gn a o q with h | h
      · rw [h3] at h; cases h
      · rw [h2] at h; cases h
  raw := E.raw
  rel := fun i k d e => let ⟨v, h1, h2⟩ := E.rel i k d e; ⟨v, h1, B.rs gs h2⟩
  dnq := E.dnq
  held := fun i l e => by
    obtain ⟨a, vs, h1, h2, h3, h4, h5⟩ := E.held i l e
    refine ⟨a, vs, h1, k a _ h2 (fun ps z => by cases z), ?_, DpAll.up gs h4, h5⟩
    cases q : G' a with
    | none => rfl
    | some o =>
      rcases gn a o q with h | h
      · rw [h3] at h; cases h
      · rw [h2] at h; cases h
  ref := E.ref
  sep := E.sep
  isref := E.isref
/-- a new object that is known from now on -/
theorem EnvOk.new (E : EnvOk B S ρ σ H G) {p : Addr} {o : HO} (hp : H p = none) (n : ∀ ps, o ≠ .tbl ps) (hz : szO o) : EnvOk B S ρ σ (upd H p o) (upd G p o) := by
  have gp : G p = none := by
    cases q : G p with
    | none => rfl
    | some u => have := E.sub p u q; rw [hp] at this; cases this
  have ne : ∀ b u, H b = some u → b ≠ p := fun b u e z => by rw [z, hp] at e; cases e
  refine E.grow (fun b u e _ => by rw [upd_ne (ne b u e)]; exact e) (fun b e => ?_) (fun b u e => ?_) (fun b u e => ?_) (fun b u e => ?_) (fun b ps e => ?_) (fun b u e => ?_) ?_
  · by_cases hb : b = p
    · rw [hb]; exact hp
    · rw [upd_ne hb] at e; exact e
  · by_cases hb : b = p
    · rw [hb, gp] at e; cases e
    · rw [upd_ne hb]; exact e
  · by_cases hb : b = p
    · rw [hb]; exact .inr hp
    · rw [upd_ne hb] at e; exact .inl e
  · by_cases hb : b = p
    · subst hb; rw [upd_same] at e ⊢; exact e
    · rw [upd_ne hb] at e ⊢; exact E.sub b u e
  · by_cases hb : b = p
    · subst hb; rw [upd_same] at e; exact n ps (Option.some.inj e)
    · rw [upd_ne hb] at e; exact E.nt b ps e
  · by_cases hb : b = p
    · subst hb; rw [upd_same] at e; cases e; exact hz
    · rw [upd_ne hb] at e; exact E.sz b u e
  · exact B.js H _ E.j fun b u e _ _ => by rw [upd_ne (ne b u e)]; exact e
/-- a new object that is not known -/
theorem EnvOk.fresh (E : EnvOk B S ρ σ H G) {p : Addr} {o : HO} (hp : H p = none) : EnvOk B S ρ σ (upd H p o) G := by
  have ne : ∀ b u, H b = some u → b ≠ p := fun b u e z => by rw [z, hp] at e; cases e
  refine E.grow (fun b u e _ => by rw [upd_ne (ne b u e)]; exact e) (fun b e => ?_) (fun b u e => e) (fun b u e => .inl e) (fun b u e => ?_) E.nt E.sz ?_
  · by_cases hb : b = p
    · rw [hb]; exact hp
    · rw [upd_ne hb] at e; exact e
  · rw [upd_ne (ne b u (E.sub b u e))]; exact E.sub b u e
  · exact B.js H _ E.j fun b u e _ _ => by rw [upd_ne (ne b u e)]; exact e
/-- no slot holds the list at p -/
def Loose (ρ : Rho) (σ : St) (p : Addr) : Prop := ∀ (i : Nat) (l : List D), Hd ρ i l → σ[i]? ≠ some (some (.ref p))
/-- a list of no slot, that a free place took, is known from now on -/
theorem EnvOk.freeze (E : EnvOk B S ρ σ H G) {p : Addr} {vs : List V} (hp : H p = some (.lst vs)) (hg : G p = none) (h0 : S.W p) (lo : Loose ρ σ p) (hz : vs.length ≤ sizeLine) : EnvOk B S ρ σ H (upd G p (.lst vs)) where
  sub := fun b u e => by
    by_cases hb : b = p
    · subst hb; rw [upd_same] at e; rw [hp]; exact e
    · rw [upd_ne hb] at e; exact E.sub b u e
  nt := fun b ps e => by
    by_cases hb : b = p
    · subst hb; rw [upd_same] at e; cases e
    · rw [upd_ne hb] at e; exact E.nt b ps e
  sz := fun b u e => by
    by_cases hb : b = p
    · subst hb; rw [upd_same] at e; cases e; exact hz
    · rw [upd_ne hb] at e; exact E.sz b u e
  j := E.j
  keep := E.keep
  there := E.there
  gsub := fun b o e => by
    have q := E.gsub b o e
    rw [upd_ne (ne_of_none q hg)]; exact q
  gnew := fun b o e => by
    by_cases hb : b = p
    · rw [hb]; exact .inr h0
    · rw [upd_ne hb] at e; exact E.gnew b o e
  len := E.len
  dat := fun i d e => by
    obtain ⟨v, h1, h2⟩ := E.dat i d e
    exact ⟨v, h1, Dp.up (fun b o q => by rw [upd_ne (ne_of_none q hg)]; exact q) h2⟩
  dct := fun i ks e => by
    obtain ⟨a, h1, h2, h3, h4⟩ := E.dct i ks e
    refine ⟨a, h1, h2, ?_, h4⟩
    rw [upd_ne (fun z => by rw [z, hp] at h2; exact dk_lst _ (Option.some.inj h2).symm)]; exact h3
  raw := E.raw
  rel := fun i k d e => let ⟨v, h1, h2⟩ := E.rel i k d e; ⟨v, h1, B.rs (fun b o q => by rw [upd_ne (ne_of_none q hg)]; exact q) h2⟩
  dnq := E.dnq
  held := fun i l e => by
    obtain ⟨a, ws, h1, h2, h3, h4, h5⟩ := E.held i l e
    refine ⟨a, ws, h1, h2, ?_, DpAll.up (fun b o q => by rw [upd_ne (ne_of_none q hg)]; exact q) h4, h5⟩
    rw [upd_ne]
    · exact h3
    · intro z; rw [z] at h1; exact lo i l e h1
  ref := E.ref
  sep := E.sep
  isref := E.isref
theorem Hd.dec (ρ : Rho) (i : Nat) : (∃ l, Hd ρ i l) ∨ ∀ l, ¬ Hd ρ i l := by
  cases q : ρ[i]? with
  | none => exact .inr fun l h => by rcases h with h | h <;> (rw [q] at h; cases h)
  | some c => cases c with
    | none => exact .inr fun l h => by rcases h with h | h <;> (rw [q] at h; cases h)
    | some c => cases c with
      | dat d => exact .inr fun l h => by rcases h with h | h <;> (rw [q] at h; cases h)
      | own l => exact .inl ⟨l, .inl q⟩
      | ref l => exact .inl ⟨l, .inr q⟩
      | dct ks => exact .inr fun l h => by rcases h with h | h <;> (rw [q] at h; cases h)
      | raw ks => exact .inr fun l h => by rcases h with h | h <;> (rw [q] at h; cases h)
      | rel k ks => exact .inr fun l h => by rcases h with h | h <;> (rw [q] at h; cases h)
theorem get_set {α : Type} {l : List α} {i j : Nat} {x y : α} (h : (l.set i x)[j]? = some y) : (i = j ∧ x = y) ∨ (i ≠ j ∧ l[j]? = some y) := by
  by_cases e : i = j
  · subst e
    by_cases hl : i < l.length
    · rw [List.getElem?_set_self hl] at h; exact .inl ⟨rfl, Option.some.inj h⟩
    · rw [List.getElem?_eq_none (by simpa using hl)] at h; cases h
  · rw [List.getElem?_set_ne e] at h; exact .inr ⟨e, h⟩
theorem Hd.of_set {i j : Nat} {c : Option C} {l : List D} (h : Hd (ρ.set i c) j l) (n : ∀ m, c ≠ some (.own m) ∧ c ≠ some (.ref m)) : i ≠ j ∧ Hd ρ j l := by
  rcases h with h | h
  · rcases get_set h with ⟨_, e⟩ | ⟨a, b⟩
    · exact absurd e (n l).1
    · exact ⟨a, .inl b⟩
  · rcases get_set h with ⟨_, e⟩ | ⟨a, b⟩
    · exact absurd e (n l).2
    · exact ⟨a, .inr b⟩
/-- a slot takes data -/
theorem EnvOk.put (E : EnvOk B S ρ σ H G) {i : Nat} {v : V} {d : D} (hd : Dp B.K G v d) (nr : ∀ l, ρ[i]? ≠ some (some (.ref l))) : EnvOk B S (ρ.set i (some (.dat d))) (σ.set i (some v)) H G where
  sub := E.sub
  nt := E.nt
  sz := E.sz
  j := E.j
  keep := E.keep
  there := E.there
  gsub := E.gsub
  gnew := E.gnew
  len := by rw [List.length_set, List.length_set]; exact E.len
  dat := fun j e h => by
    rcases get_set h with ⟨q, z⟩ | ⟨q, z⟩
    · subst q
      have hl : i < ρ.length := by
        have := (List.getElem?_eq_some_iff.mp h).1
        simpa using this
      cases z
      exact ⟨v, List.getElem?_set_self (by rw [← E.len]; exact hl), hd⟩
    · obtain ⟨w, h1, h2⟩ := E.dat j e z
      exact ⟨w, by rw [List.getElem?_set_ne q]; exact h1, h2⟩
  dct := fun j ks h => by
    rcases get_set h with ⟨_, z⟩ | ⟨q, z⟩
    · cases z
    · obtain ⟨a, h1, h2⟩ := E.dct j ks z
      exact ⟨a, by rw [List.getElem?_set_ne q]; exact h1, h2⟩
  raw := fun j v h => by
    rcases get_set h with ⟨_, z⟩ | ⟨q, z⟩
    · cases z
    · rw [List.getElem?_set_ne q]; exact E.raw j v z
  rel := fun j k d h => by
    rcases get_set h with ⟨_, z⟩ | ⟨q, z⟩
    · cases z
    · obtain ⟨w, h1, h2⟩ := E.rel j k d z
      exact ⟨w, by rw [List.getElem?_set_ne q]; exact h1, h2⟩
  dnq := fun j k ks ks' h1 h2 => by
    rcases get_set h1 with ⟨_, z⟩ | ⟨_, z1⟩
    · cases z
    · rcases get_set h2 with ⟨_, z⟩ | ⟨_, z2⟩
      · cases z
      · exact E.dnq j k ks ks' z1 z2
  held := fun j l h => by
    obtain ⟨q, z⟩ := h.of_set fun m => ⟨(fun z => nomatch z), (fun z => nomatch z)⟩
    obtain ⟨a, vs, h1, r⟩ := E.held j l z
    exact ⟨a, vs, by rw [List.getElem?_set_ne q]; exact h1, r⟩
  ref := fun j l h => by
    rcases get_set h with ⟨_, z⟩ | ⟨q, z⟩
    · cases z
    · refine ⟨?_, (E.ref j l z).2⟩
      rw [List.getElem?_set_ne q]; exact (E.ref j l z).1
  sep := fun j k l m hjk h1 h2 => by
    obtain ⟨q1, z1⟩ := h1.of_set fun m => ⟨(fun z => nomatch z), (fun z => nomatch z)⟩
    obtain ⟨q2, z2⟩ := h2.of_set fun m => ⟨(fun z => nomatch z), (fun z => nomatch z)⟩
    rw [List.getElem?_set_ne q1, List.getElem?_set_ne q2]
    exact E.sep j k l m hjk z1 z2
  isref := fun j l h => by
    obtain ⟨l', h'⟩ := E.isref j l h
    by_cases q : i = j
    · subst q; exact absurd h' (nr l')
    · exact ⟨l', by rw [List.getElem?_set_ne q]; exact h'⟩
/-- a slot takes a value of a kind -/
theorem EnvOk.putRel (E : EnvOk B S ρ σ H G) {i : Nat} {v : V} {kd : Nat} {d : D} (hd : B.RV kd d G v) (nr : ∀ l, ρ[i]? ≠ some (some (.ref l))) : EnvOk B S (ρ.set i (some (.rel kd d))) (σ.set i (some v)) H G where
  sub := E.sub
  nt := E.nt
  sz := E.sz
  j := E.j
  keep := E.keep
  there := E.there
  gsub := E.gsub
  gnew := E.gnew
  len := by rw [List.length_set, List.length_set]; exact E.len
  dat := fun j e h => by
    rcases get_set h with ⟨q, z⟩ | ⟨q, z⟩
    · cases z
    · obtain ⟨w, h1, h2⟩ := E.dat j e z
      exact ⟨w, by rw [List.getElem?_set_ne q]; exact h1, h2⟩
  dct := fun j ks h => by
    rcases get_set h with ⟨_, z⟩ | ⟨q, z⟩
    · cases z
    · obtain ⟨a, h1, h2⟩ := E.dct j ks z
      exact ⟨a, by rw [List.getElem?_set_ne q]; exact h1, h2⟩
  raw := fun j v h => by
    rcases get_set h with ⟨_, z⟩ | ⟨q, z⟩
    · cases z
    · rw [List.getElem?_set_ne q]; exact E.raw j v z
  rel := fun j kk e h => by
    rcases get_set h with ⟨q, z⟩ | ⟨q, z⟩
    · subst q
      have hl : i < ρ.length := by
        have := (List.getElem?_eq_some_iff.mp h).1
        simpa using this
      cases z
      exact ⟨v, List.getElem?_set_self (by rw [← E.len]; exact hl), hd⟩
    · obtain ⟨w, h1, h2⟩ := E.rel j kk e z
      exact ⟨w, by rw [List.getElem?_set_ne q]; exact h1, h2⟩
  dnq := fun j k ks ks' h1 h2 => by
    rcases get_set h1 with ⟨_, z⟩ | ⟨_, z1⟩
    · cases z
    · rcases get_set h2 with ⟨_, z⟩ | ⟨_, z2⟩
      · cases z
      · exact E.dnq j k ks ks' z1 z2
  held := fun j l h => by
    obtain ⟨q, z⟩ := h.of_set fun m => ⟨(fun z => nomatch z), (fun z => nomatch z)⟩
    obtain ⟨a, vs, h1, r⟩ := E.held j l z
    exact ⟨a, vs, by rw [List.getElem?_set_ne q]; exact h1, r⟩
  ref := fun j l h => by
    rcases get_set h with ⟨_, z⟩ | ⟨q, z⟩
    · cases z
    · refine ⟨?_, (E.ref j l z).2⟩
      rw [List.getElem?_set_ne q]; exact (E.ref j l z).1
  sep := fun j k l m hjk h1 h2 => by
    obtain ⟨q1, z1⟩ := h1.of_set fun m => ⟨(fun z => nomatch z), (fun z => nomatch z)⟩
    obtain ⟨q2, z2⟩ := h2.of_set fun m => ⟨(fun z => nomatch z), (fun z => nomatch z)⟩
    rw [List.getElem?_set_ne q1, List.getElem?_set_ne q2]
    exact E.sep j k l m hjk z1 z2
  isref := fun j l h => by
    obtain ⟨l', h'⟩ := E.isref j l h
    by_cases q : i = j
    · subst q; exact absurd h' (nr l')
    · exact ⟨l', by rw [List.getElem?_set_ne q]; exact h'⟩
/-- a slot takes a list of its own -/
theorem EnvOk.putOwn (E : EnvOk B S ρ σ H G) {i : Nat} {p : Addr} {vs : List V} {lw : List D} (hp : H p = some (.lst vs)) (hg : G p = none) (h0 : S.W p) (lo : Loose ρ σ p) (hz : vs.length ≤ sizeLine) (hd : DpAll B.K G vs lw) (nr : ∀ l, ρ[i]? ≠ some (some (.ref l))) :
    EnvOk B S (ρ.set i (some (.own lw))) (σ.set i (some (.ref p))) H G where
  sub := E.sub
  nt := E.nt
  sz := E.sz
  j := E.j
  keep := E.keep
  there := E.there
  gsub := E.gsub
  gnew := E.gnew
  len := by rw [List.length_set, List.length_set]; exact E.len
  dat := fun j e h => by
    rcases get_set h with ⟨q, z⟩ | ⟨q, z⟩
    · cases z
    · obtain ⟨w, h1, h2⟩ := E.dat j e z
      exact ⟨w, by rw [List.getElem?_set_ne q]; exact h1, h2⟩
  dct := fun j ks h => by
    rcases get_set h with ⟨_, z⟩ | ⟨q, z⟩
    · cases z
    · obtain ⟨a, h1, h2⟩ := E.dct j ks z
      exact ⟨a, by rw [List.getElem?_set_ne q]; exact h1, h2⟩
  raw := fun j v h => by
    rcases get_set h with ⟨_, z⟩ | ⟨q, z⟩
    · cases z
    · rw [List.getElem?_set_ne q]; exact E.raw j v z
  rel := fun j k d h => by
    rcases get_set h with ⟨_, z⟩ | ⟨q, z⟩
    · cases z
    · obtain ⟨w, h1, h2⟩ := E.rel j k d z
      exact ⟨w, by rw [List.getElem?_set_ne q]; exact h1, h2⟩
  dnq := fun j k ks ks' h1 h2 => by
    rcases get_set h1 with ⟨_, z⟩ | ⟨_, z1⟩
    · cases z
    · rcases get_set h2 with ⟨_, z⟩ | ⟨_, z2⟩
      · cases z
      · exact E.dnq j k ks ks' z1 z2
  held := fun j m h => by
    by_cases q : i = j
    · subst q
      rcases h with h | h
      · rcases get_set h with ⟨_, z⟩ | ⟨q, _⟩
        · cases z
          have hl : i < ρ.length := by
            have := (List.getElem?_eq_some_iff.mp h).1
            simpa using this
          exact ⟨p, vs, List.getElem?_set_self (by rw [← E.len]; exact hl), hp, hg, hd, h0, hz⟩
        · exact absurd rfl q
      · rcases get_set h with ⟨_, z⟩ | ⟨q, _⟩
        · cases z
        · exact absurd rfl q
    · have h' : Hd ρ j m := by
        rcases h with h | h
        · rw [List.getElem?_set_ne q] at h; exact .inl h
        · rw [List.getElem?_set_ne q] at h; exact .inr h
      obtain ⟨a, ws, h1, r⟩ := E.held j m h'
      exact ⟨a, ws, by rw [List.getElem?_set_ne q]; exact h1, r⟩
  ref := fun j l h => by
    rcases get_set h with ⟨_, z⟩ | ⟨q, z⟩
    · cases z
    · refine ⟨?_, (E.ref j l z).2⟩
      rw [List.getElem?_set_ne q]; exact (E.ref j l z).1
  sep := fun j k l m hjk h1 h2 => by
    have cs : ∀ {j : Nat} {l : List D}, Hd (ρ.set i (some (.own lw))) j l → i = j ∨ (i ≠ j ∧ Hd ρ j l) := fun {j l} h => by
      by_cases q : i = j
      · exact .inl q
      · refine .inr ⟨q, ?_⟩
        rcases h with h | h
        · rw [List.getElem?_set_ne q] at h; exact .inl h
        · rw [List.getElem?_set_ne q] at h; exact .inr h
    have at' : ∀ {j : Nat} {l : List D}, i = j → Hd (ρ.set i (some (.own lw))) j l → (σ.set i (some (.ref p)))[j]? = some (some (.ref p)) := fun {j l} q h => by
      subst q
      have hl : i < ρ.length := by
        rcases h with h | h
        · have := (List.getElem?_eq_some_iff.mp h).1; simpa using this
        · have := (List.getElem?_eq_some_iff.mp h).1; simpa using this
      exact List.getElem?_set_self (by rw [← E.len]; exact hl)
    rcases cs h1 with q1 | ⟨q1, z1⟩
    · rcases cs h2 with q2 | ⟨q2, z2⟩
      · exact absurd (q1.symm.trans q2) hjk
      · rw [at' q1 h1, List.getElem?_set_ne q2]
        exact fun z => lo k m z2 z.symm
    · rcases cs h2 with q2 | ⟨q2, z2⟩
      · rw [at' q2 h2, List.getElem?_set_ne q1]
        exact fun z => lo j l z1 z
      · rw [List.getElem?_set_ne q1, List.getElem?_set_ne q2]
        exact E.sep j k l m hjk z1 z2
  isref := fun j l h => by
    obtain ⟨l', h'⟩ := E.isref j l h
    by_cases q : i = j
    · subst q; exact absurd h' (nr l')
    · exact ⟨l', by rw [List.getElem?_set_ne q]; exact h'⟩
/-- a slot is forgotten -/
theorem EnvOk.drop (E : EnvOk B S ρ σ H G) {i : Nat} {x : Option V} (nr : ∀ l, ρ[i]? ≠ some (some (.ref l))) : EnvOk B S (ρ.set i none) (σ.set i x) H G where
  sub := E.sub
  nt := E.nt
  sz := E.sz
  j := E.j
  keep := E.keep
  there := E.there
  gsub := E.gsub
  gnew := E.gnew
  len := by rw [List.length_set, List.length_set]; exact E.len
  dat := fun j e h => by
    rcases get_set h with ⟨q, z⟩ | ⟨q, z⟩
    · cases z
    · obtain ⟨w, h1, h2⟩ := E.dat j e z
      exact ⟨w, by rw [List.getElem?_set_ne q]; exact h1, h2⟩
  dct := fun j ks h => by
    rcases get_set h with ⟨_, z⟩ | ⟨q, z⟩
    · cases z
    · obtain ⟨a, h1, h2⟩ := E.dct j ks z
      exact ⟨a, by rw [List.getElem?_set_ne q]; exact h1, h2⟩
  raw := fun j v h => by
    rcases get_set h with ⟨_, z⟩ | ⟨q, z⟩
    · cases z
    · rw [List.getElem?_set_ne q]; exact E.raw j v z
  rel := fun j k d h => by
    rcases get_set h with ⟨_, z⟩ | ⟨q, z⟩
    · cases z
    · obtain ⟨w, h1, h2⟩ := E.rel j k d z
      exact ⟨w, by rw [List.getElem?_set_ne q]; exact h1, h2⟩
  dnq := fun j k ks ks' h1 h2 => by
    rcases get_set h1 with ⟨_, z⟩ | ⟨_, z1⟩
    · cases z
    · rcases get_set h2 with ⟨_, z⟩ | ⟨_, z2⟩
      · cases z
      · exact E.dnq j k ks ks' z1 z2
  held := fun j l h => by
    obtain ⟨q, z⟩ := h.of_set fun m => ⟨(fun z => nomatch z), (fun z => nomatch z)⟩
    obtain ⟨a, vs, h1, r⟩ := E.held j l z
    exact ⟨a, vs, by rw [List.getElem?_set_ne q]; exact h1, r⟩
  ref := fun j l h => by
    rcases get_set h with ⟨_, z⟩ | ⟨q, z⟩
    · cases z
    · refine ⟨?_, (E.ref j l z).2⟩
      rw [List.getElem?_set_ne q]; exact (E.ref j l z).1
  sep := fun j k l m hjk h1 h2 => by
    obtain ⟨q1, z1⟩ := h1.of_set fun m => ⟨(fun z => nomatch z), (fun z => nomatch z)⟩
    obtain ⟨q2, z2⟩ := h2.of_set fun m => ⟨(fun z => nomatch z), (fun z => nomatch z)⟩
    rw [List.getElem?_set_ne q1, List.getElem?_set_ne q2]
    exact E.sep j k l m hjk z1 z2
  isref := fun j l h => by
    obtain ⟨l', h'⟩ := E.isref j l h
    by_cases q : i = j
    · subst q; exact absurd h' (nr l')
    · exact ⟨l', by rw [List.getElem?_set_ne q]; exact h'⟩
end
end Rf

set_option maxRecDepth 100000
set_option maxHeartbeats 4000000
namespace Rf
open PySem PySem.Spec PyProof.Rows L2

/-! ### readings by data -/
def Le (G G' : Hp) : Prop := ∀ b o, G b = some o → G' b = some o
theorem Le.refl {G : Hp} : Le G G := fun _ _ h => h
theorem Le.trans {G G' G'' : Hp} (a : Le G G') (b : Le G' G'') : Le G G'' := fun c o h => b c o (a c o h)
theorem Le.upd {G : Hp} {p : Addr} {o : HO} (h : G p = none) : Le G (upd G p o) := fun b u e => by rw [upd_ne (ne_of_none e h)]; exact e
def Post (B : Bs) (S : Sit) (Wx : WX) (σ : St) (G : Hp) {α : Type} (o : O α) (R : α → Rho → Hp → Hp → Prop) : Prop := match o with
  | .ok a ρ' => ∀ H' G', EnvOk B S ρ' σ H' G' → Le G G' → R a ρ' H' G'
  | .ex e ρ' => ∀ cls a H' G', EnvOk B S ρ' σ H' G' → Le G G' → B.EX e cls a H' → Wx cls a σ H'
  | .no => False
section
variable {B : Bs} {S : Sit} {Wx : WX} {σ : St} {G G' : Hp} {α β : Type} {x : O α} {f : α → Rho → O β}
theorem Post.le {R : α → Rho → Hp → Hp → Prop} (h : Post B S Wx σ G x R) (le : Le G G') : Post B S Wx σ G' x R := by
  cases x with
  | ok a ρ => exact fun H1 G1 E1 l1 => h H1 G1 E1 (le.trans l1)
  | ex e ρ => exact fun c a H1 G1 E1 l1 => h c a H1 G1 E1 (le.trans l1)
  | no => exact h
theorem Post.bind {R : β → Rho → Hp → Hp → Prop} (h : Post B S Wx σ G (x.bind f) R) : Post B S Wx σ G x (fun a ρ1 H1 G1 => Post B S Wx σ G1 (f a ρ1) R) := by
  cases x with
  | ok a ρ => exact fun H1 G1 E1 l1 => Post.le h l1
  | ex e ρ => exact h
  | no => exact h
theorem Post.imp {R R' : α → Rho → Hp → Hp → Prop} (h : Post B S Wx σ G x R) (i : ∀ a ρ' H' G', EnvOk B S ρ' σ H' G' → Le G G' → R a ρ' H' G' → R' a ρ' H' G') : Post B S Wx σ G x R' := by
  cases x with
  | ok a ρ => exact fun H1 G1 E1 l1 => i a ρ H1 G1 E1 l1 (h H1 G1 E1 l1)
  | ex e ρ => exact h
  | no => exact h
theorem Post.at {R : α → Rho → Hp → Hp → Prop} {a : α} {ρ : Rho} {H : Hp} (E : EnvOk B S ρ σ H G) (h : Post B S Wx σ G (.ok a ρ) R) : R a ρ H G := h H G E Le.refl
end
section
variable (B : Bs) (Wx : WX)
/-- an expression that gives data -/
def tEv (f : Rho → O D) : TE := fun σ H Q => ∃ S ρ G, EnvOk B S ρ σ H G ∧ Post B S Wx σ G (f ρ) (fun d _ H' G' => ∀ v, Dp B.K G' v d → Q v H')
/-- a test -/
def tEt (f : Rho → O D) : TT := fun σ H Q => ∃ S ρ G, EnvOk B S ρ σ H G ∧ Post B S Wx σ G (f ρ) (fun d _ H' G' => ∃ b, d = .bool b ∧ Q b H')
/-- an expression that gives a new list of no slot -/
def tEo (f : Rho → O (List D)) : TE := fun σ H Q => ∃ S ρ G, EnvOk B S ρ σ H G ∧ Post B S Wx σ G (f ρ) (fun l ρ' H' G' => ∀ p vs, H' p = some (.lst vs) → G' p = none → S.W p → Loose ρ' σ p → vs.length ≤ sizeLine → DpAll B.K G' vs l → Q (.ref p) H')
/-- arguments that give data -/
def tEs (f : Rho → O (List D)) : TA := fun σ H Q => ∃ S ρ G, EnvOk B S ρ σ H G ∧ Post B S Wx σ G (f ρ) (fun ds _ H' G' => ∀ vs, DpAll B.K G' vs ds → Q vs H')
/-- arguments: data, or a slot's list lent -/
inductive Ar where | d (x : D) | r (i : Nat)
def ArOk (K : PySem.W.Frag) (σ : St) (G : Hp) : Ar → V → Prop
  | .d x, v => Dp K G v x
  | .r i, v => σ[i]? = some (some v)
theorem ArOk.up {K : PySem.W.Frag} {σ : St} {G G' : Hp} (h : Le G G') {a : Ar} {v : V} (x : ArOk K σ G a v) : ArOk K σ G' a v := by
  cases a with
  | d _ => exact Dp.up h x
  | r _ => exact x
def tEa (f : Rho → O (List Ar)) : TA := fun σ H Q => ∃ S ρ G, EnvOk B S ρ σ H G ∧ Post B S Wx σ G (f ρ) (fun as _ H' G' => ∀ vs, Paired (ArOk B.K σ G') as vs → Q vs H')
end
theorem _root_.L2.PE.imp' {X : Cx} {e : Expr} {t t' : TE} (h : PE X e t) (i : ∀ σ H Q, t' σ H Q → t σ H Q) : PE X e t' := ⟨fun pins s σ H Q I q => h.run pins s σ H Q I (i σ H Q q)⟩
theorem _root_.L2.PT.imp' {X : Cx} {e : Expr} {t t' : TT} (h : PT X e t) (i : ∀ σ H Q, t' σ H Q → t σ H Q) : PT X e t' := ⟨fun pins s σ H Q I q => h.run pins s σ H Q I (i σ H Q q)⟩
theorem _root_.L2.PW.imp' {X : Cx} {e : Expr} {t t' : TT} (h : PW X e t) (i : ∀ σ H Q, t' σ H Q → t σ H Q) : PW X e t' := ⟨fun wh pins s σ H Q I q => h.run wh pins s σ H Q I (i σ H Q q)⟩
theorem _root_.L2.PA.imp' {X : Cx} {e : List Expr} {t t' : TA} (h : PA X e t) (i : ∀ σ H Q, t' σ H Q → t σ H Q) : PA X e t' := ⟨fun pos pins s σ H Q I q => h.run pos pins s σ H Q I (i σ H Q q)⟩
theorem _root_.L2.PS.imp' {X : Cx} {e : Stmt} {t t' : TS} (h : PS X e t) (i : ∀ D σ H, t' D σ H → t D σ H) : PS X e t' := ⟨fun pins s σ H D I q => h.run pins s σ H D I (i D σ H q)⟩
theorem _root_.L2.PSs.imp' {X : Cx} {e : List Stmt} {t t' : TS} (h : PSs X e t) (i : ∀ D σ H, t' D σ H → t D σ H) : PSs X e t' := ⟨fun pins s σ H D I q => h.run pins s σ H D I (i D σ H q)⟩
/-- a rule whose reading is chosen behind the facts -/
theorem pe_late {X : Cx} {e : Expr} {t : TE} (h : ∀ σ H Q, t σ H Q → ∃ t', PE X e t' ∧ t' σ H Q) : PE X e t := ⟨fun pins s σ H Q I q => let ⟨_, h1, h2⟩ := h σ H Q q; h1.run pins s σ H Q I h2⟩
theorem pt_late {X : Cx} {e : Expr} {t : TT} (h : ∀ σ H Q, t σ H Q → ∃ t', PT X e t' ∧ t' σ H Q) : PT X e t := ⟨fun pins s σ H Q I q => let ⟨_, h1, h2⟩ := h σ H Q q; h1.run pins s σ H Q I h2⟩

section
variable {X : Cx} {B : Bs} {Wx : WX}
theorem EnvOk.gnone {S : Sit} {ρ : Rho} {σ : St} {H G : Hp} {p : Addr} (E : EnvOk B S ρ σ H G) (hp : H p = none) : G p = none := by
  cases q : G p with
  | none => rfl
  | some u => have := E.sub p u q; rw [hp] at this; cases this
theorem EnvOk.loose {S : Sit} {ρ : Rho} {σ : St} {H G : Hp} {p : Addr} (E : EnvOk B S ρ σ H G) (hp : H p = none) : Loose ρ σ p := fun i l h z => by
  obtain ⟨a, vs, h1, h2, _⟩ := E.held i l h
  rw [h1] at z; cases z
  rw [hp] at h2; cases h2
/-- a new list at a free place -/
theorem EnvOk.newl {S : Sit} {ρ : Rho} {σ : St} {H G : Hp} {p : Addr} {vs : List V} (E : EnvOk B S ρ σ H G) (hp : H p = none) :
    EnvOk B S ρ σ (upd H p (.lst vs)) G ∧ (upd H p (.lst vs)) p = some (.lst vs) ∧ G p = none ∧ S.W p ∧ Loose ρ σ p :=
  ⟨E.fresh hp, upd_same, E.gnone hp, S.wn p (E.there p hp), E.loose hp⟩
/-- a new list is data where nobody changes it -/
theorem pe_frozen {e : Expr} {f : Rho → O (List D)} (h : PE X e (tEo B Wx f)) : PE X e (tEv B Wx fun ρ => (f ρ).bind fun l ρ' => .ok (.list l) ρ') := h.imp' fun σ H Q ⟨S, ρ, G, E, P⟩ => by
  refine ⟨S, ρ, G, E, P.bind.imp fun l ρ' H' G' E' le q p vs h1 h2 h3 h4 hz h5 => ?_⟩
  refine q H' (upd G' p (.lst vs)) (E'.freeze h1 h2 h3 h4 hz) (Le.upd h2) _ ?_
  exact .lst (SqL.of upd_same) (DpAll.up (Le.upd h2) h5)

theorem szl {S : Sit} {ρ : Rho} {σ : St} {H G : Hp} {K : PySem.W.Frag} {a : Addr} {xs : List V} (E : EnvOk B S ρ σ H G) (h : SqL K G a xs) : xs.length ≤ sizeLine := by
  rcases h with (h | ⟨o, h⟩) | ⟨o, its, n, h1, h2, h3, h4, h5, h6⟩
  · exact E.sz a _ h
  · exact E.sz a _ h
  · rw [h6.length]; simpa using h5
theorem szt {S : Sit} {ρ : Rho} {σ : St} {H G : Hp} {K : PySem.W.Frag} {a : Addr} {xs : List V} (E : EnvOk B S ρ σ H G) (h : SqT K G a xs) : xs.length ≤ sizeLine := by
  rcases h with (h | ⟨o, h⟩) | ⟨o, its, n, h1, h2, h3, h4, h5⟩
  · exact E.sz a _ h
  · exact E.sz a _ h
  · rw [h5.length]; simpa using h4
/-! ### names and constants -/
def sVar (i : Nat) : Rho → O D := fun ρ => match ρ[i]? with
  | some (some (.dat d)) => .ok d ρ
  | some (some (.own l)) => .ok (.list l) (ρ.set i (some (.dat (.list l))))
  | _ => .no
/-- an own list becomes data -/
theorem EnvOk.thaw {S : Sit} {ρ : Rho} {σ : St} {H G : Hp} {i : Nat} {l : List D} (E : EnvOk B S ρ σ H G) (h : ρ[i]? = some (some (.own l))) :
    ∃ (a : Addr) (G' : Hp), σ[i]? = some (some (.ref a)) ∧ EnvOk B S (ρ.set i (some (.dat (.list l)))) σ H G' ∧ Le G G' ∧ Dp B.K G' (.ref a) (.list l) := by
  obtain ⟨a, vs, h1, h2, h3, h4, h0, hz⟩ := E.held i l (.inl h)
  have nr : ∀ m, ρ[i]? ≠ some (some (.ref m)) := fun m z => by rw [h] at z; cases z
  have E1 : EnvOk B S (ρ.set i none) (σ.set i (some (.ref a))) H G := E.drop nr
  have es : σ.set i (some (.ref a)) = σ := by
    apply List.ext_getElem?
    intro j
    by_cases q : i = j
    · subst q
      have hl : i < σ.length := (List.getElem?_eq_some_iff.mp h1).1
      rw [List.getElem?_set_self hl, h1]
    · rw [List.getElem?_set_ne q]
  rw [es] at E1
  have lo : Loose (ρ.set i none) σ a := fun j m hj z => by
    obtain ⟨q, hj'⟩ := hj.of_set fun m => ⟨(fun z => nomatch z), (fun z => nomatch z)⟩
    exact E.sep i j l m q (.inl h) hj' (h1.trans z.symm)
  have E2 := E1.freeze h2 h3 h0 lo hz
  have dp : Dp B.K (upd G a (.lst vs)) (.ref a) (.list l) := .lst (SqL.of upd_same) (DpAll.up (Le.upd h3) h4)
  have E3 := E2.put (i := i) dp (fun m z => by
    have hl : i < ρ.length := (List.getElem?_eq_some_iff.mp h).1
    rw [List.getElem?_set_self hl] at z; cases z)
  rw [List.set_set, es] at E3
  exact ⟨a, _, h1, E3, Le.upd h3, dp⟩
theorem r_var {i : Nat} {x : Str} {pos : Pos} (hN : X.N[i]? = some x) (hv : Vis X.env.scope x) (hd : (x == ("__debug__" : Str)) = false) (hcd : (x == ("__classdict__" : Str)) = false) : PE X (.Name x pos) (tEv B Wx (sVar i)) :=
  (pe_var hN hv hd hcd).imp' fun σ H Q ⟨S, ρ, G, E, P⟩ => by
    unfold sVar at P
    split at P
    · rename_i d h
      obtain ⟨v, h1, h2⟩ := E.dat i d h
      exact ⟨v, h1, P H G E Le.refl v h2⟩
    · rename_i l h
      obtain ⟨a, G', h1, E', le, dp⟩ := E.thaw h
      exact ⟨_, h1, P H G' E' le _ dp⟩
    · exact False.elim P
def sCon (d : D) : Rho → O D := fun ρ => .ok d ρ
theorem r_int {i j pos} : PE X (.Constant (.int i) j pos) (tEv B Wx (sCon (.int i))) := pe_int.imp' fun σ H Q ⟨S, ρ, G, E, P⟩ => P H G E Le.refl _ (.int i)
theorem r_bl {b j pos} : PE X (.Constant (.bool b) j pos) (tEv B Wx (sCon (.bool b))) := pe_bl.imp' fun σ H Q ⟨S, ρ, G, E, P⟩ => P H G E Le.refl _ (.bl b)
theorem r_non {j pos} : PE X (.Constant .none j pos) (tEv B Wx (sCon .none)) := pe_non.imp' fun σ H Q ⟨S, ρ, G, E, P⟩ => P H G E Le.refl _ .non
theorem r_str {x j pos} : PE X (.Constant (.str x) j pos) (tEv B Wx (sCon (.str x))) := pe_str.imp' fun σ H Q ⟨S, ρ, G, E, P⟩ => P H G E Le.refl _ (.str x)
/-- a constant of the module -/
theorem r_glob {x : Str} {v : V} {u : Value} {d : D} {pos : Pos} (hg : Gl X x) (hm : X.mg x = some u) (r : RelV v u) (hd : Dp B.K (fun _ => none) v d) (hdb : (x == ("__debug__" : Str)) = false) : PE X (.Name x pos) (tEv B Wx (sCon d)) :=
  (pe_glob hg hm r hdb).imp' fun σ H Q ⟨S, ρ, G, E, P⟩ => P H G E Le.refl _ (Dp.up (fun _ _ h => by cases h) hd)

/-! ### rows of expressions -/
def sNil {α : Type} : Rho → O (List α) := fun ρ => .ok [] ρ
def sCons {α : Type} (f : Rho → O α) (g : Rho → O (List α)) : Rho → O (List α) := fun ρ => (f ρ).bind fun x ρ1 => (g ρ1).bind fun xs ρ2 => .ok (x :: xs) ρ2
theorem r_nil : PA X [] (tEs B Wx sNil) := pa_nil.imp' fun σ H Q ⟨S, ρ, G, E, P⟩ => P H G E Le.refl _ .nil
theorem r_cons {e : Expr} {es : List Expr} {f : Rho → O D} {g : Rho → O (List D)} (he : PE X e (tEv B Wx f)) (hr : PA X es (tEs B Wx g)) (hs : starEach (e :: es) X.env = (false, eval e X.env) :: starEach es X.env) : PA X (e :: es) (tEs B Wx (sCons f g)) :=
  (pa_cons he hr hs).imp' fun σ H Q ⟨S, ρ, G, E, P⟩ => by
    refine ⟨S, ρ, G, E, P.bind.imp fun d ρ1 H1 G1 E1 le1 q v hv => ?_⟩
    exact ⟨S, ρ1, G1, E1, q.bind.imp fun ds ρ2 H2 G2 E2 le2 q2 vs hvs => Post.at E2 q2 _ (.cons (Dp.up le2 hv) hvs)⟩
theorem r_anil : PA X [] (tEa B Wx sNil) := pa_nil.imp' fun σ H Q ⟨S, ρ, G, E, P⟩ => P H G E Le.refl _ .nil
theorem r_acons {e : Expr} {es : List Expr} {f : Rho → O D} {g : Rho → O (List Ar)} (he : PE X e (tEv B Wx f)) (hr : PA X es (tEa B Wx g)) (hs : starEach (e :: es) X.env = (false, eval e X.env) :: starEach es X.env) :
    PA X (e :: es) (tEa B Wx (sCons (fun ρ => (f ρ).bind fun d ρ1 => .ok (.d d) ρ1) g)) :=
  (pa_cons he hr hs).imp' fun σ H Q ⟨S, ρ, G, E, P⟩ => by
    refine ⟨S, ρ, G, E, P.bind.bind.imp fun d ρ1 H1 G1 E1 le1 q v hv => ?_⟩
    have q' := Post.at E1 q
    exact ⟨S, ρ1, G1, E1, q'.bind.imp fun ds ρ2 H2 G2 E2 le2 q2 vs hvs => Post.at E2 q2 _ (.cons (show ArOk B.K σ G2 (.d d) v from Dp.up le2 hv) hvs)⟩
def sLent (i : Nat) : Rho → O Ar := fun ρ => match ρ[i]? with
  | some (some (.own _)) => .ok (.r i) ρ
  | some (some (.ref _)) => .ok (.r i) ρ
  | _ => .no
theorem r_aref {i : Nat} {x : Str} {pos : Pos} {es : List Expr} {g : Rho → O (List Ar)} (hN : X.N[i]? = some x) (hv : Vis X.env.scope x) (hd : (x == ("__debug__" : Str)) = false) (hcd : (x == ("__classdict__" : Str)) = false) (hr : PA X es (tEa B Wx g))
    (hs : starEach ((.Name x pos) :: es) X.env = (false, eval (.Name x pos) X.env) :: starEach es X.env) : PA X (.Name x pos :: es) (tEa B Wx (sCons (sLent i) g)) :=
  (pa_cons (pe_var hN hv hd hcd) hr hs).imp' fun σ H Q ⟨S, ρ, G, E, P⟩ => by
    have key : ∀ l, Hd ρ i l → sLent i ρ = .ok (.r i) ρ → ∃ v, σ[i]? = some (some v) ∧ tEa B Wx g σ H fun vs H2 => Q (v :: vs) H2 := fun l h e => by
      obtain ⟨a, vs, h1, h2⟩ := E.held i l h
      unfold sCons at P
      rw [e] at P
      have q := Post.at E P.bind
      exact ⟨_, h1, S, ρ, G, E, q.bind.imp fun as ρ2 H2 G2 E2 le2 q2 ws hw => Post.at E2 q2 _ (.cons (show ArOk B.K σ G2 (.r i) _ from h1) hw)⟩
    cases q : ρ[i]? with
    | none => unfold sCons sLent at P; rw [q] at P; exact False.elim P
    | some c =>
      cases c with
      | none => unfold sCons sLent at P; rw [q] at P; exact False.elim P
      | some c =>
        cases c with
        | dat d => unfold sCons sLent at P; rw [q] at P; exact False.elim P
        | own l => exact key l (.inl q) (by unfold sLent; rw [q])
        | ref l => exact key l (.inr q) (by unfold sLent; rw [q])
        | dct d => unfold sCons sLent at P; rw [q] at P; exact False.elim P
        | raw d => unfold sCons sLent at P; rw [q] at P; exact False.elim P
        | rel k d => unfold sCons sLent at P; rw [q] at P; exact False.elim P
/-- a row that is short enough by its letters -/
theorem le_line {n : Nat} (h : n ≤ 1000) : n ≤ sizeLine := by rw [sizeLine_eq]; omega
def sTup (f : Rho → O (List D)) : Rho → O D := fun ρ => (f ρ).bind fun l ρ1 => if l.length ≤ 1000 then .ok (.tuple l) ρ1 else .no
theorem r_tup {es : List Expr} {k : Nat} {pos : Pos} {f : Rho → O (List D)} (h : PA X es (tEs B Wx f)) : PE X (.Tuple es k pos) (tEv B Wx (sTup f)) :=
  (pe_tup h).imp' fun σ H Q ⟨S, ρ, G, E, P⟩ => by
    refine ⟨S, ρ, G, E, P.bind.imp fun l ρ1 H1 G1 E1 le1 q vs hvs => ?_⟩
    split at q
    · rename_i hl
      refine ⟨by rw [hvs.length]; exact le_line hl, fun p hp => ?_⟩
      refine q (upd H1 p (.tup vs)) (upd G1 p (.tup vs)) (E1.new hp (fun _ => HO.noConfusion) (show vs.length ≤ sizeLine by rw [hvs.length]; exact le_line hl)) (Le.upd (E1.gnone hp)) _ ?_
      exact .tup (SqT.of upd_same) (DpAll.up (Le.upd (E1.gnone hp)) hvs)
    · exact False.elim q
def sLst (f : Rho → O (List D)) : Rho → O (List D) := fun ρ => (f ρ).bind fun l ρ1 => if l.length ≤ 1000 then .ok l ρ1 else .no
theorem r_lst {es : List Expr} {pos : Pos} {f : Rho → O (List D)} (h : PA X es (tEs B Wx f)) : PE X (.List es pos) (tEo B Wx (sLst f)) :=
  (pe_lst h).imp' fun σ H Q ⟨S, ρ, G, E, P⟩ => by
    refine ⟨S, ρ, G, E, P.bind.imp fun l ρ1 H1 G1 E1 le1 q vs hvs => ?_⟩
    split at q
    · rename_i hl
      refine ⟨by rw [hvs.length]; exact le_line hl, fun p hp => ?_⟩
      obtain ⟨e1, e2, e3, e4, e5⟩ := E1.newl (vs := vs) hp
      exact q _ G1 e1 Le.refl p vs e2 e3 e4 e5 (by rw [hvs.length]; exact le_line hl) hvs
    · exact False.elim q
end
end Rf

set_option maxRecDepth 100000
set_option maxHeartbeats 4000000
namespace Rf
open PySem PySem.Spec PyProof.Rows L2

/-! ### operators on data -/
def MulOk (i j : Int) : Prop := i.natAbs.log2 + j.natAbs.log2 < 1000000
instance (i j : Int) : Decidable (MulOk i j) := inferInstanceAs (Decidable (_ < _))
def dBin : Operator → D → D → Option D
  | .Add, .int i, .int j => some (.int (i + j))
  | .Add, .list a, .list b => if a.length + b.length ≤ 16777216 then some (.list (a ++ b)) else none
  | .Add, .tuple a, .tuple b => if a.length + b.length ≤ 16777216 then some (.tuple (a ++ b)) else none
  | .Add, .str a, .str b => if a.length + b.length ≤ 16777216 then some (.str (a ++ b)) else none
  | .Sub, .int i, .int j => some (.int (i - j))
  | .Mult, .int i, .int j => if MulOk i j then some (.int (i * j)) else none
  | .Mult, .tuple a, .int k => if a ≠ [] ∧ 2 ≤ k ∧ k ≤ 1000 ∧ a.length ≤ 1000 then some (.tuple (List.replicate k.toNat a).flatten) else none
  | .FloorDiv, .int i, .int j => if j ≠ 0 ∧ j.natAbs.log2 < 9000 then some (.int (i.fdiv j)) else none
  | .Mod, .int i, .int j => if j ≠ 0 then some (.int (i.fmod j)) else none
  | .Pow, .int i, .int j => if 0 ≤ j ∧ j ≤ 1000000 ∧ i.natAbs < 2 ^ 64 then some (.int (i ^ j.toNat)) else none
  | _, _, _ => none
def intsOf : List D → Option (List Int)
  | [] => some []
  | .int i :: r => (intsOf r).map (i :: ·)
  | _ :: _ => none
theorem intsOf_eq : ∀ {ds : List D} {ns : List Int}, intsOf ds = some ns → ds = ns.map PyData.int
  | [], ns, h => by simp [intsOf] at h; subst h; rfl
  | .int i :: r, ns, h => by
    cases q : intsOf r with
    | none => simp [intsOf, q] at h
    | some ms =>
      simp [intsOf, q] at h
      subst h
      rw [intsOf_eq q]; rfl
  | .none :: _, _, h | .bool _ :: _, _, h | .str _ :: _, _, h | .list _ :: _, _, h | .tuple _ :: _, _, h | .dict _ :: _, _, h => by simp [intsOf] at h
def shaped (d : D) : Bool := SeqAt.shaped d
def isNone : D → Bool
  | .none => true
  | _ => false
def dCmp : CmpOp → D → D → Option Bool
  | .Eq, a, b => if shaped a && shaped b then some (PyData.eqv a b) else none
  | .NotEq, a, b => if shaped a && shaped b then some (!PyData.eqv a b) else none
  | .Lt, .int i, .int j => some (decide (i < j))
  | .Lt, .tuple a, .tuple b => match intsOf a, intsOf b with
    | some ns, some ms => some (HT.lexLt ns ms)
    | _, _ => none
  | .LtE, .int i, .int j => some (decide (i ≤ j))
  | .Gt, .int i, .int j => some (decide (j < i))
  | .GtE, .int i, .int j => some (decide (j ≤ i))
  | .Is, a, .none => some (isNone a)
  | .IsNot, a, .none => some (!isNone a)
  | .In, .str a, .str b => some (!(Builtin.Str.occurrences b a 0 b.length 1).isEmpty)
  | .NotIn, .str a, .str b => some (!(!(Builtin.Str.occurrences b a 0 b.length 1).isEmpty))
  | .In, a, .list ds => if shaped a && shaped (.list ds) then some (ds.any fun z => PyData.eqv z a) else none
  | .In, a, .tuple ds => if shaped a && shaped (.tuple ds) then some (ds.any fun z => PyData.eqv z a) else none
  | .NotIn, a, .list ds => if shaped a && shaped (.list ds) then some (!ds.any fun z => PyData.eqv z a) else none
  | .NotIn, a, .tuple ds => if shaped a && shaped (.tuple ds) then some (!ds.any fun z => PyData.eqv z a) else none
  | _, _, _ => none
def lift {α : Type} (x : Option α) (ρ : Rho) : O α := match x with | some z => .ok z ρ | none => .no

/-- what is wanted behind an operator that gives the data z -/
def rD (B : Bs) (g : D → D → Option D) : R2 := fun v w H Q => ∃ S ρ σ G x y z, EnvOk B S ρ σ H G ∧ Dp B.K G v x ∧ Dp B.K G w y ∧ g x y = some z ∧ ∀ H' G', EnvOk B S ρ σ H' G' → Le G G' → ∀ u, Dp B.K G' u z → Q u H'
def s2 (g : D → D → Option D) (fa fb : Rho → O D) : Rho → O D := fun ρ => (fa ρ).bind fun x ρ1 => (fb ρ1).bind fun y ρ2 => lift (g x y) ρ2
section
variable {X : Cx} {B : Bs} {Wx : WX}
theorem tOp_of {g : D → D → Option D} {fa fb : Rho → O D} {σ : St} {H : Hp} {Q : VK} (h : tEv B Wx (s2 g fa fb) σ H Q) : tOp (rD B g) (tEv B Wx fa) (tEv B Wx fb) σ H Q := by
  obtain ⟨S, ρ, G, E, P⟩ := h
  refine ⟨S, ρ, G, E, P.bind.imp fun x ρ1 H1 G1 E1 le1 q1 v hv => ?_⟩
  refine ⟨S, ρ1, G1, E1, q1.bind.imp fun y ρ2 H2 G2 E2 le2 q2 w hw => ?_⟩
  cases e : g x y with
  | none => rw [e] at q2; exact False.elim q2
  | some z =>
    rw [e] at q2
    exact ⟨S, ρ2, σ, G2, x, y, z, E2, Dp.up le2 hv, hw, e, fun H' G' E' le u hu => q2 H' G' E' le u hu⟩
theorem r_bin {op : Operator} {g : D → D → Option D} {a b : Expr} {pos : Pos} {fa fb : Rho → O D} (ho : OpR X (binaryOp op) (rD B g)) (ha : PE X a (tEv B Wx fa)) (hb : PE X b (tEv B Wx fb)) : PE X (.BinOp a op b pos) (tEv B Wx (s2 g fa fb)) :=
  (pe_op ho ha hb).imp' fun σ H Q h => tOp_of h

/-! ### the operators' rules by data -/
/-- xs + ys, of any lists that are read -/
theorem op_catL : OpR X (binaryOp .Add) (fun x y H Q => ∃ l b xs zs, x = .ref l ∧ y = .ref b ∧ SqL X.K H l xs ∧ SqL X.K H b zs ∧ xs.length + zs.length ≤ sizeLine ∧ ∀ p, H p = none → Q (.ref p) (upd H p (.lst (xs ++ zs)))) := by
  intro pins s σ H x y v u Q I rx ry h
  obtain ⟨l, b, xs, zs, rfl, rfl, hH, hB, hz, q⟩ := h
  cases rx
  cases ry
  obtain ⟨its, r, pl, hl⟩ := I.list hH
  obtain ⟨its2, r2, pl2, hl2⟩ := I.list hB
  obtain ⟨⟨cls, dd, data, sl⟩, ho, hc, n, hd⟩ := id pl.isList
  obtain ⟨⟨cls2, dd2, data2, sl2⟩, ho2, hc2, n2, hd2⟩ := id pl2.isList
  simp only at hc hd hc2 hd2
  subst hc hd hc2 hd2
  have e : its.toArray ++ its2.toArray = (its ++ its2).toArray := by simp
  have e1 := r.length
  have e2 := r2.length
  refine concat_meets ⟨_, ho, rfl⟩ ⟨_, ho2, rfl⟩ noFill_list_add seq_list_add PySem.F.slot_list_add PySem.F.entry_list_add (PySem.F.args_list_add_2 _ _) (list_addW l b its.toArray its2.toArray n n2 dd dd2 sl sl2 (by rw [List.size_toArray, List.size_toArray]; omega)) ⟨ho, ho2, ?_⟩
  rw [e]
  exact ⟨.ref _, _, I.lnew (t' := s.toks) (r.append r2) (by rw [List.length_append]; omega), rfl, q _ I.fresh⟩
theorem dint {K : PySem.W.Frag} {G : Hp} {v : V} {i : Int} (h : Dp K G v (.int i)) : v = .int i := by cases h; rfl
theorem dstr {K : PySem.W.Frag} {G : Hp} {v : V} {i : Str} (h : Dp K G v (.str i)) : v = .str i := by cases h; rfl
theorem dbl {K : PySem.W.Frag} {G : Hp} {v : V} {i : Bool} (h : Dp K G v (.bool i)) : v = .bl i := by cases h; rfl
theorem dnon {K : PySem.W.Frag} {G : Hp} {v : V} (h : Dp K G v .none) : v = .non := by cases h; rfl
theorem dlst {K : PySem.W.Frag} {G : Hp} {v : V} {ds : List D} (h : Dp K G v (.list ds)) : ∃ a xs, v = .ref a ∧ SqL K G a xs ∧ DpAll K G xs ds := by cases h with | lst s a => exact ⟨_, _, rfl, s, a⟩
theorem dtup {K : PySem.W.Frag} {G : Hp} {v : V} {ds : List D} (h : Dp K G v (.tuple ds)) : ∃ a xs, v = .ref a ∧ SqT K G a xs ∧ DpAll K G xs ds := by cases h with | tup s a => exact ⟨_, _, rfl, s, a⟩
theorem ddict {K : PySem.W.Frag} {G : Hp} {v : V} {ds : List (D × D)} (h : Dp K G v (.dict ds)) : False := by cases h
theorem SqL.le {K : PySem.W.Frag} {G H : Hp} {a : Addr} {xs : List V} (le : Le G H) (h : SqL K G a xs) : SqL K H a xs := h.imp (fun r => r.imp (le _ _) fun ⟨o, q⟩ => ⟨o, le _ _ q⟩) id
theorem SqT.le {K : PySem.W.Frag} {G H : Hp} {a : Addr} {xs : List V} (le : Le G H) (h : SqT K G a xs) : SqT K H a xs := h.imp (fun r => r.imp (le _ _) fun ⟨o, q⟩ => ⟨o, le _ _ q⟩) id
theorem line_eq : (sizeLine : Nat) = 16777216 := sizeLine_eq
/-- an int that an operator makes of two ints -/
theorem ints_of {f : Value → Value → Sem Value} {Cc : Int → Int → Prop} {g : Int → Int → Int} (h : OpR X f (rI Cc fun i j => .int (g i j))) {pins : List (Addr × Obj)} {s : Shared} {σ : St} {H : Hp} {v w : V} {u u' : Value} {Q : VK} {i j : Int} (I : Inv X pins σ H s) (ru : RelV v u) (ru' : RelV w u')
    (ev : v = .int i) (ew : w = .int j) (hc : Cc i j) (q : Q (.int (g i j)) H) : wpAny (model X.prog X.w) X.A (f u u') (EP X pins σ Q) X.xe s := h pins s σ H v w u u' Q I ru ru' ⟨i, j, ev, ew, hc, q⟩
theorem op_fdivZ : OpR X (binaryOp .FloorDiv) (rI (fun _ j => j ≠ 0 ∧ j.natAbs.log2 < 9000) fun i j => .int (i.fdiv j)) := opI fun i j _ _ _ _ _ hc q => floordiv_int hc.1 q (.inl (PyProof.noPylong_of_log2 hc.2))
theorem opD_bin (hK : X.K = B.K) (op : Operator) : OpR X (binaryOp op) (rD B (dBin op)) := by
  intro pins s σ H v w u u' Q I ru ru' h
  obtain ⟨S, ρ, σ', G, x, y, z, E, hv, hw, e, q⟩ := h
  unfold dBin at e
  split at e
  · -- int + int
    cases e; rw [dint hv] at ru; rw [dint hw] at ru'
    exact op_add pins s σ H _ _ u u' Q I ru ru' ⟨_, _, rfl, rfl, q H G E Le.refl _ (.int _)⟩
  · split at e
    · rename_i hz
      cases e
      obtain ⟨a, xs, rfl, s1, a1⟩ := dlst hv
      obtain ⟨b, ys, rfl, t1, b1⟩ := dlst hw
      refine op_catL pins s σ H _ _ u u' Q I ru ru' ⟨a, b, xs, ys, rfl, rfl, hK ▸ SqL.le E.sub s1, hK ▸ SqL.le E.sub t1, ?_, fun p hp => ?_⟩
      · rw [line_eq, a1.length, b1.length]; exact hz
      · exact q _ (upd G p (.lst (xs ++ ys))) (E.new hp (fun _ => HO.noConfusion) (show (xs ++ ys).length ≤ sizeLine by rw [List.length_append, line_eq, a1.length, b1.length]; exact hz)) (Le.upd (E.gnone hp)) _ (.lst (SqL.of upd_same) (DpAll.up (Le.upd (E.gnone hp)) (a1.append b1)))
    · cases e
  · split at e
    · rename_i hz
      cases e
      obtain ⟨a, xs, rfl, s1, a1⟩ := dtup hv
      obtain ⟨b, ys, rfl, t1, b1⟩ := dtup hw
      refine op_catA pins s σ H _ _ u u' Q I ru ru' ⟨a, b, xs, ys, rfl, rfl, hK ▸ SqT.le E.sub s1, hK ▸ SqT.le E.sub t1, ?_, fun e0 => ?_, fun _ e0 => ?_, fun _ _ p hp => ?_⟩
      · rw [line_eq, a1.length, b1.length]; exact hz
      · refine q H G E Le.refl _ ?_
        rw [a1.nil_iff.mp e0, List.nil_append]; exact hw
      · refine q H G E Le.refl _ ?_
        rw [b1.nil_iff.mp e0, List.append_nil]; exact hv
      · exact q _ (upd G p (.tup (xs ++ ys))) (E.new hp (fun _ => HO.noConfusion) (show (xs ++ ys).length ≤ sizeLine by rw [List.length_append, line_eq, a1.length, b1.length]; exact hz)) (Le.upd (E.gnone hp)) _ (.tup (SqT.of upd_same) (DpAll.up (Le.upd (E.gnone hp)) (a1.append b1)))
    · cases e
  · split at e
    · rename_i hz
      cases e; rw [dstr hv] at ru; rw [dstr hw] at ru'
      exact op_add_str pins s σ H _ _ u u' Q I ru ru' ⟨_, _, rfl, rfl, by rw [line_eq]; exact hz, q H G E Le.refl _ (.str _)⟩
    · cases e
  · cases e; rw [dint hv] at ru; rw [dint hw] at ru'
    exact op_sub pins s σ H _ _ u u' Q I ru ru' ⟨_, _, rfl, rfl, q H G E Le.refl _ (.int _)⟩
  · split at e
    · rename_i hz
      cases e; rw [dint hv] at ru; rw [dint hw] at ru'
      exact op_mulW pins s σ H _ _ u u' Q I ru ru' ⟨_, _, rfl, rfl, hz, q H G E Le.refl _ (.int _)⟩
    · cases e
  · split at e
    · rename_i hz
      cases e
      obtain ⟨a, xs, rfl, s1, a1⟩ := dtup hv
      rw [dint hw] at ru'
      refine op_repT pins s σ H _ _ u u' Q I ru ru' ⟨a, _, xs, rfl, rfl, hK ▸ SqT.le E.sub s1, fun z => hz.1 (a1.nil_iff.mp z), hz.2.1, hz.2.2.1, by rw [a1.length]; exact hz.2.2.2, fun p hp => ?_⟩
      have hl : ∀ m : Nat, m ≤ 1000 → (List.replicate m xs).flatten.length ≤ sizeLine := fun m hm => by
        rw [PyProof.Rows.lm_len_rep_flat, line_eq, a1.length]
        have := Nat.mul_le_mul hm hz.2.2.2
        omega
      exact q _ (upd G p _) (E.new (o := .tup _) hp (fun _ => HO.noConfusion) (hl _ (by have := hz.2.2.1; omega))) (Le.upd (E.gnone hp)) _ (.tup (SqT.of upd_same) (DpAll.up (Le.upd (E.gnone hp)) (a1.rep _)))
    · cases e
  · split at e
    · rename_i hz
      cases e; rw [dint hv] at ru; rw [dint hw] at ru'
      exact op_fdivZ pins s σ H _ _ u u' Q I ru ru' ⟨_, _, rfl, rfl, hz, q H G E Le.refl _ (.int _)⟩
    · cases e
  · split at e
    · rename_i hz
      cases e; rw [dint hv] at ru; rw [dint hw] at ru'
      exact op_modN pins s σ H _ _ u u' Q I ru ru' ⟨_, _, rfl, rfl, hz, q H G E Le.refl _ (.int _)⟩
    · cases e
  · split at e
    · rename_i hz
      cases e; rw [dint hv] at ru; rw [dint hw] at ru'
      exact op_pow pins s σ H _ _ u u' Q I ru ru' ⟨_, _, rfl, rfl, hz, q H G E Le.refl _ (.int _)⟩
    · cases e
  · cases e
theorem op_inT (hu : X.A.units + 65 < cLine) : OpR X (compareOp .In) (fun x y H Q => ∃ d ds, Dp X.K H x d ∧ Dp X.K H y (.tuple ds) ∧ SeqAt.shaped d = true ∧ SeqAt.shaped (.tuple ds) = true ∧ Q (.bl (ds.any fun z => PyData.eqv z d)) H) := by
  intro pins s σ H x y v u Q I rx ry h
  obtain ⟨d, ds, hd, he, sd, se, q⟩ := h
  obtain ⟨as, r1⟩ := Dp.reads I d x v hd rx
  obtain ⟨bs, r2⟩ := Dp.reads I (.tuple ds) y u he ry
  exact SeqAt.in_tuple_reads r2 r1 (SeqAt.canLay_of_shaped se) (SeqAt.canLay_of_shaped sd) (room_in_shaped sd hu) ⟨.bl _, H, I, rfl, q⟩
theorem op_notInT (hu : X.A.units + 65 < cLine) : OpR X (compareOp .NotIn) (fun x y H Q => ∃ d ds, Dp X.K H x d ∧ Dp X.K H y (.tuple ds) ∧ SeqAt.shaped d = true ∧ SeqAt.shaped (.tuple ds) = true ∧ Q (.bl (!ds.any fun z => PyData.eqv z d)) H) := by
  intro pins s σ H x y v u Q I rx ry h
  obtain ⟨d, ds, hd, he, sd, se, q⟩ := h
  obtain ⟨as, r1⟩ := Dp.reads I d x v hd rx
  obtain ⟨bs, r2⟩ := Dp.reads I (.tuple ds) y u he ry
  exact SeqAt.notIn_tuple_reads r2 r1 (SeqAt.canLay_of_shaped se) (SeqAt.canLay_of_shaped sd) (room_in_shaped sd hu) ⟨.bl _, H, I, rfl, q⟩
theorem dp_none {K : PySem.W.Frag} {G : Hp} {v : V} {x : D} (h : Dp K G v x) : decide (v = V.non) = isNone x := by
  cases h <;> simp [isNone]
theorem opD_cmp (hK : X.K = B.K) (hu : X.A.units + 65 < cLine) (op : CmpOp) : OpR X (compareOp op) (rD B fun x y => (dCmp op x y).map PyData.bool) := by
  intro pins s σ H v w u u' Q I ru ru' h
  obtain ⟨S, ρ, σ', G, x, y, z, E, hv, hw, e, q⟩ := h
  have hv' : Dp X.K H v x := hK ▸ Dp.up E.sub hv
  have hw' : Dp X.K H w y := hK ▸ Dp.up E.sub hw
  have e : (dCmp op x y).map PyData.bool = some z := e
  have fin : ∀ b, dCmp op x y = some b → Q (.bl b) H := fun b eb => by
    rw [eb] at e; cases e
    exact q H G E Le.refl _ (.bl b)
  cases eb : dCmp op x y with
  | none => rw [eb] at e; cases e
  | some b =>
    have fb := fin b eb
    have hu0 : X.A.units < cLine := by omega
    have hu1 : X.A.units + 64 < cLine := by omega
    unfold dCmp at eb
    split at eb
    · split at eb
      · rename_i hs; cases eb
        rw [Bool.and_eq_true] at hs
        exact op_eqD hu1 pins s σ H v w u u' Q I ru ru' ⟨_, _, hv', hw', hs.1, hs.2, fb⟩
      · cases eb
    · split at eb
      · rename_i hs; cases eb
        rw [Bool.and_eq_true] at hs
        exact op_neD hu1 pins s σ H v w u u' Q I ru ru' ⟨_, _, hv', hw', hs.1, hs.2, fb⟩
      · cases eb
    · cases eb
      exact op_lt pins s σ H v w u u' Q I ru ru' ⟨_, _, dint hv, dint hw, fb⟩
    · split at eb
      · rename_i ns ms h1 h2; cases eb
        obtain ⟨a, xs, rfl, s1, a1⟩ := dtup hv'
        obtain ⟨b, ys, rfl, t1, b1⟩ := dtup hw'
        rw [intsOf_eq h1] at a1
        rw [intsOf_eq h2] at b1
        rw [a1.ints] at s1
        rw [b1.ints] at t1
        exact op_ltT hu0 pins s σ H _ _ u u' Q I ru ru' ⟨a, b, ns, ms, rfl, rfl, s1, t1, fb⟩
      · cases eb
    · cases eb
      exact op_le pins s σ H v w u u' Q I ru ru' ⟨_, _, dint hv, dint hw, fb⟩
    · cases eb
      exact op_gt pins s σ H v w u u' Q I ru ru' ⟨_, _, dint hv, dint hw, fb⟩
    · cases eb
      exact op_ge pins s σ H v w u u' Q I ru ru' ⟨_, _, dint hv, dint hw, fb⟩
    · cases eb
      refine op_isN pins s σ H v w u u' Q I ru ru' ⟨dnon hw, ?_⟩
      rw [dp_none hv]; exact fb
    · cases eb
      refine op_notN pins s σ H v w u u' Q I ru ru' ⟨dnon hw, ?_⟩
      rw [dp_none hv]; exact fb
    · cases eb
      exact op_in_str pins s σ H v w u u' Q I ru ru' ⟨_, _, dstr hv, dstr hw, fb⟩
    · cases eb
      exact op_notin_str pins s σ H v w u u' Q I ru ru' ⟨_, _, dstr hv, dstr hw, fb⟩
    · split at eb
      · rename_i hs; cases eb
        rw [Bool.and_eq_true] at hs
        exact op_inD hu pins s σ H v w u u' Q I ru ru' ⟨_, _, hv', hw', hs.1, hs.2, fb⟩
      · cases eb
    · split at eb
      · rename_i hs; cases eb
        rw [Bool.and_eq_true] at hs
        exact op_inT hu pins s σ H v w u u' Q I ru ru' ⟨_, _, hv', hw', hs.1, hs.2, fb⟩
      · cases eb
    · split at eb
      · rename_i hs; cases eb
        rw [Bool.and_eq_true] at hs
        exact op_notInD hu pins s σ H v w u u' Q I ru ru' ⟨_, _, hv', hw', hs.1, hs.2, fb⟩
      · cases eb
    · split at eb
      · rename_i hs; cases eb
        rw [Bool.and_eq_true] at hs
        exact op_notInT hu pins s σ H v w u u' Q I ru ru' ⟨_, _, hv', hw', hs.1, hs.2, fb⟩
      · cases eb
    · cases eb
end
end Rf

set_option maxRecDepth 100000
set_option maxHeartbeats 4000000
namespace Rf
open PySem PySem.Spec PyProof.Rows L2
theorem ifT {A B : Prop} (h : A) : if true = true then A else B := by rw [if_pos rfl]; exact h
theorem ifF {A B : Prop} (h : B) : if false = true then A else B := by rw [if_neg Bool.false_ne_true]; exact h
section
variable {X : Cx} {B : Bs} {Wx : WX}
/-! ### comparisons, tests -/
def bCmp (op : CmpOp) : D → D → Option D := fun x y => (dCmp op x y).map PyData.bool
theorem tEt_to {f : Rho → O D} {σ : St} {H : Hp} {Q : Bool → Hp → Prop} (h : tEt B Wx f σ H Q) : tEv B Wx f σ H (fun x H' => ∃ k, x = .bl k ∧ Q k H') := by
  obtain ⟨S, ρ, G, E, P⟩ := h
  refine ⟨S, ρ, G, E, P.imp fun d ρ1 H1 G1 E1 le1 q v hv => ?_⟩
  obtain ⟨b, rfl, q⟩ := q
  exact ⟨b, dbl hv, q⟩
theorem r_cmp {op : CmpOp} {a b : Expr} {pos : Pos} {fa fb : Rho → O D} (ho : OpR X (compareOp op) (rD B (bCmp op))) (ha : PE X a (tEv B Wx fa)) (hb : PE X b (tEv B Wx fb)) (hm : behindInMarks op b = false) : PE X (.Compare a [op] [b] pos) (tEv B Wx (s2 (bCmp op) fa fb)) :=
  (pe_cmpR ho ha hb hm).imp' fun σ H Q h => tOp_of h
theorem rt_cmp {op : CmpOp} {a b : Expr} {pos : Pos} {fa fb : Rho → O D} (ho : OpR X (compareOp op) (rD B (bCmp op))) (ha : PE X a (tEv B Wx fa)) (hb : PE X b (tEv B Wx fb)) (hm : behindInMarks op b = false) : PT X (.Compare a [op] [b] pos) (tEt B Wx (s2 (bCmp op) fa fb)) :=
  (pt_cmpR ho ha hb hm).imp' fun σ H Q h => tOp_of (tEt_to h)
theorem rt_val {e : Expr} {f : Rho → O D} (h : PE X e (tEv B Wx f)) (he : ∀ whole, isTrue e X.env whole = (do let v ← whole; standAt e.pos; holding [v] (truthy v))) : PT X e (tEt B Wx f) :=
  (pt_val h he).imp' fun σ H Q h => tEt_to h
def sCmp2 (op op' : CmpOp) (fa fb fc : Rho → O D) : Rho → O D := fun ρ => (fa ρ).bind fun x ρ1 => (fb ρ1).bind fun y ρ2 => match dCmp op x y with
  | some true => (fc ρ2).bind fun z ρ3 => lift (bCmp op' y z) ρ3
  | some false => .ok (.bool false) ρ2
  | none => .no
theorem tChain_of {op op' : CmpOp} {fa fb fc : Rho → O D} {σ : St} {H : Hp} {Q : VK} (h : tEv B Wx (sCmp2 op op' fa fb fc) σ H Q) : tChain (rD B (bCmp op)) (rD B (bCmp op')) (tEv B Wx fa) (tEv B Wx fb) (tEv B Wx fc) σ H Q := by
  obtain ⟨S, ρ, G, E, P⟩ := h
  refine ⟨S, ρ, G, E, P.bind.imp fun x ρ1 H1 G1 E1 le1 q1 v hv => ?_⟩
  refine ⟨S, ρ1, G1, E1, q1.bind.imp fun y ρ2 H2 G2 E2 le2 q2 w hw => ?_⟩
  cases e : dCmp op x y with
  | none => rw [e] at q2; exact False.elim q2
  | some b =>
    refine ⟨S, ρ2, σ, G2, x, y, .bool b, E2, Dp.up le2 hv, hw, by unfold bCmp; rw [e]; rfl, fun H' G' E' le u hu => ⟨b, dbl hu, ?_⟩⟩
    rw [e] at q2
    cases b with
    | false =>
      rw [if_neg Bool.false_ne_true]
      exact q2 H' G' E' le _ (.bl false)
    | true =>
      rw [if_pos rfl]
      have q2' := Post.le q2.bind le
      refine ⟨S, ρ2, G', E', q2'.imp fun z ρ3 H3 G3 E3 le3 q3 t ht => ?_⟩
      cases e3 : bCmp op' y z with
      | none => rw [e3] at q3; exact False.elim q3
      | some r =>
        rw [e3] at q3
        exact ⟨S, ρ3, σ, G3, y, z, r, E3, Dp.up (le.trans le3) hw, ht, e3, fun H4 G4 E4 le4 u hu => q3 H4 G4 E4 le4 u hu⟩
theorem r_cmp2 {op op' : CmpOp} {a b c : Expr} {pos : Pos} {fa fb fc : Rho → O D} (ho : OpR X (compareOp op) (rD B (bCmp op))) (ho' : OpR X (compareOp op') (rD B (bCmp op'))) (ha : PE X a (tEv B Wx fa)) (hb : PE X b (tEv B Wx fb)) (hc : PE X c (tEv B Wx fc))
    (hm : lastMarks [op, op'] [b, c] = false) : PE X (.Compare a [op, op'] [b, c] pos) (tEv B Wx (sCmp2 op op' fa fb fc)) :=
  (pe_chain ho ho' ha hb hc hm).imp' fun σ H Q h => tChain_of h
theorem rt_cmp2 {op op' : CmpOp} {a b c : Expr} {pos : Pos} {fa fb fc : Rho → O D} (ho : OpR X (compareOp op) (rD B (bCmp op))) (ho' : OpR X (compareOp op') (rD B (bCmp op'))) (ha : PE X a (tEv B Wx fa)) (hb : PE X b (tEv B Wx fb)) (hc : PE X c (tEv B Wx fc))
    (hm : lastMarks [op, op'] [b, c] = false) : PT X (.Compare a [op, op'] [b, c] pos) (tEt B Wx (sCmp2 op op' fa fb fc)) :=
  (pt_chain ho ho' ha hb hc hm).imp' fun σ H Q h => tChain_of (tEt_to h)

/-! ### and, or, not, if -/
def sAnd (fa fb : Rho → O D) : Rho → O D := fun ρ => (fa ρ).bind fun x ρ1 => match x with
  | .bool true => fb ρ1
  | .bool false => .ok (.bool false) ρ1
  | _ => .no
def sOr (fa fb : Rho → O D) : Rho → O D := fun ρ => (fa ρ).bind fun x ρ1 => match x with
  | .bool true => .ok (.bool true) ρ1
  | .bool false => fb ρ1
  | _ => .no
def sNot (fa : Rho → O D) : Rho → O D := fun ρ => (fa ρ).bind fun x ρ1 => match x with
  | .bool b => .ok (.bool (!b)) ρ1
  | _ => .no
def sIte (fc fa fb : Rho → O D) : Rho → O D := fun ρ => (fc ρ).bind fun x ρ1 => match x with
  | .bool true => fa ρ1
  | .bool false => fb ρ1
  | _ => .no
theorem r_and {a b : Expr} {rest : List Expr} {pos pos' : Pos} {fa fb : Rho → O D} (ha : PE X a (tEv B Wx fa)) (hb : PE X (.BoolOp .And (b :: rest) pos) (tEv B Wx fb)) : PE X (.BoolOp .And (a :: b :: rest) pos) (tEv B Wx (sAnd fa fb)) :=
  (pe_and ha hb).imp' fun σ H Q ⟨S, ρ, G, E, P⟩ => by
    refine ⟨S, ρ, G, E, P.bind.imp fun x ρ1 H1 G1 E1 le1 q v hv => ?_⟩
    split at q
    · exact ⟨true, dbl hv, ifT ⟨S, ρ1, G1, E1, q⟩⟩
    · exact ⟨false, dbl hv, ifF (q H1 G1 E1 Le.refl _ (.bl false))⟩
    · exact False.elim q
theorem r_or {a b : Expr} {rest : List Expr} {pos pos' : Pos} {fa fb : Rho → O D} (ha : PE X a (tEv B Wx fa)) (hb : PE X (.BoolOp .Or (b :: rest) pos) (tEv B Wx fb)) : PE X (.BoolOp .Or (a :: b :: rest) pos) (tEv B Wx (sOr fa fb)) :=
  (pe_or ha hb).imp' fun σ H Q ⟨S, ρ, G, E, P⟩ => by
    refine ⟨S, ρ, G, E, P.bind.imp fun x ρ1 H1 G1 E1 le1 q v hv => ?_⟩
    split at q
    · exact ⟨true, dbl hv, ifT (q H1 G1 E1 Le.refl _ (.bl true))⟩
    · exact ⟨false, dbl hv, ifF ⟨S, ρ1, G1, E1, q⟩⟩
    · exact False.elim q
theorem r_not {a : Expr} {pos : Pos} {fa : Rho → O D} (ha : PE X a (tEv B Wx fa)) : PE X (.UnaryOp .Not a pos) (tEv B Wx (sNot fa)) :=
  (pe_not ha).imp' fun σ H Q ⟨S, ρ, G, E, P⟩ => by
    refine ⟨S, ρ, G, E, P.bind.imp fun x ρ1 H1 G1 E1 le1 q v hv => ?_⟩
    split at q
    · exact ⟨_, dbl hv, q H1 G1 E1 Le.refl _ (.bl _)⟩
    · exact False.elim q
theorem rt_and {a b : Expr} {rest : List Expr} {pos : Pos} {fa fb : Rho → O D} (ha : PT X a (tEt B Wx fa)) (hb : PW X (.BoolOp .And (b :: rest) pos) (tEt B Wx fb)) : PW X (.BoolOp .And (a :: b :: rest) pos) (tEt B Wx (sAnd fa fb)) :=
  (pw_and ha hb).imp' fun σ H Q ⟨S, ρ, G, E, P⟩ => by
    refine ⟨S, ρ, G, E, P.bind.imp fun x ρ1 H1 G1 E1 le1 q => ?_⟩
    split at q
    · exact ⟨true, rfl, ifT ⟨S, ρ1, G1, E1, q⟩⟩
    · refine ⟨false, rfl, ifF ?_⟩
      obtain ⟨b, e, q⟩ := q H1 G1 E1 Le.refl
      cases e; exact q
    · exact False.elim q
theorem rt_or {a b : Expr} {rest : List Expr} {pos : Pos} {fa fb : Rho → O D} (ha : PT X a (tEt B Wx fa)) (hb : PW X (.BoolOp .Or (b :: rest) pos) (tEt B Wx fb)) : PW X (.BoolOp .Or (a :: b :: rest) pos) (tEt B Wx (sOr fa fb)) :=
  (pw_or ha hb).imp' fun σ H Q ⟨S, ρ, G, E, P⟩ => by
    refine ⟨S, ρ, G, E, P.bind.imp fun x ρ1 H1 G1 E1 le1 q => ?_⟩
    split at q
    · refine ⟨true, rfl, ifT ?_⟩
      obtain ⟨b, e, q⟩ := q H1 G1 E1 Le.refl
      cases e; exact q
    · exact ⟨false, rfl, ifF ⟨S, ρ1, G1, E1, q⟩⟩
    · exact False.elim q
theorem rt_not {a : Expr} {pos : Pos} {fa : Rho → O D} (ha : PT X a (tEt B Wx fa)) : PT X (.UnaryOp .Not a pos) (tEt B Wx (sNot fa)) :=
  (pt_not ha).imp' fun σ H Q ⟨S, ρ, G, E, P⟩ => by
    refine ⟨S, ρ, G, E, P.bind.imp fun x ρ1 H1 G1 E1 le1 q => ?_⟩
    split at q
    · refine ⟨_, rfl, ?_⟩
      obtain ⟨b, e, q⟩ := q H1 G1 E1 Le.refl
      cases e; exact q
    · exact False.elim q
theorem r_ite {c a b : Expr} {pos : Pos} {fc fa fb : Rho → O D} (hc : PT X c (tEt B Wx fc)) (ha : PE X a (tEv B Wx fa)) (hb : PE X b (tEv B Wx fb)) : PE X (.IfExp c a b pos) (tEv B Wx (sIte fc fa fb)) :=
  (pe_ifExp hc ha hb).imp' fun σ H Q ⟨S, ρ, G, E, P⟩ => by
    refine ⟨S, ρ, G, E, P.bind.imp fun x ρ1 H1 G1 E1 le1 q => ?_⟩
    split at q
    · exact ⟨true, rfl, ifT ⟨S, ρ1, G1, E1, q⟩⟩
    · exact ⟨false, rfl, ifF ⟨S, ρ1, G1, E1, q⟩⟩
    · exact False.elim q
def sNeg (fa : Rho → O D) : Rho → O D := fun ρ => (fa ρ).bind fun x ρ1 => match x with
  | .int i => .ok (.int (-i)) ρ1
  | _ => .no
theorem r_neg {a : Expr} {pos : Pos} {fa : Rho → O D} (ha : PE X a (tEv B Wx fa)) : PE X (.UnaryOp .USub a pos) (tEv B Wx (sNeg fa)) :=
  (pe_un un_neg ha).imp' fun σ H Q ⟨S, ρ, G, E, P⟩ => by
    refine ⟨S, ρ, G, E, P.bind.imp fun x ρ1 H1 G1 E1 le1 q v hv => ?_⟩
    split at q
    · exact ⟨_, dint hv, q H1 G1 E1 Le.refl _ (.int _)⟩
    · exact False.elim q

/-! ### subscripts -/
def dIx : D → D → Option D
  | .list xs, .int i => atI xs i
  | .tuple xs, .int i => atI xs i
  | .str z, .int i => if z.length ≤ 16777216 then (atI z.cps.toList i).map (fun c => .str ⟨#[c]⟩) else none
  | _, _ => none
theorem atI_dp {K : PySem.W.Frag} {G : Hp} {vs : List V} {ds : List D} {i : Int} {d : D} (h : DpAll K G vs ds) (e : atI ds i = some d) : ∃ v, atI vs i = some v ∧ Dp K G v d := by
  unfold atI at e ⊢
  rw [h.length]
  cases q : ixN ds.length i with
  | none => rw [q] at e; cases e
  | some j =>
    rw [q] at e
    exact h.get e
theorem opD_ix (hK : X.K = B.K) : IxR X (rD B dIx) := by
  intro value slice pins s σ H v w u u' Q I ru ru' h hs
  obtain ⟨S, ρ, σ', G, x, y, z, E, hv, hw, e, q⟩ := h
  unfold dIx at e
  split at e
  · obtain ⟨a, xs, rfl, s1, a1⟩ := dlst hv
    obtain ⟨t, h1, h2⟩ := atI_dp a1 e
    exact ix_list value slice pins s σ H _ _ u u' Q I ru ru' ⟨a, xs, _, t, rfl, dint hw, hK ▸ SqL.le E.sub s1, h1, q H G E Le.refl _ h2⟩ hs
  · obtain ⟨a, xs, rfl, s1, a1⟩ := dtup hv
    obtain ⟨t, h1, h2⟩ := atI_dp a1 e
    exact ix_tup value slice pins s σ H _ _ u u' Q I ru ru' ⟨a, xs, _, t, rfl, dint hw, hK ▸ SqT.le E.sub s1, h1, q H G E Le.refl _ h2⟩ hs
  · split at e
    · rename_i zs i hz
      cases e1 : atI zs.cps.toList i with
      | none => rw [e1] at e; cases e
      | some c =>
        rw [e1] at e; cases e
        exact ix_str value slice pins s σ H _ _ u u' Q I ru ru' ⟨_, _, c, dstr hv, dint hw, by rw [line_eq]; exact hz, e1, q H G E Le.refl _ (.str _)⟩ hs
    · cases e
  · cases e
theorem r_ix {a b : Expr} {pos : Pos} {fa fb : Rho → O D} (hK : X.K = B.K) (ha : PE X a (tEv B Wx fa)) (hb : PE X b (tEv B Wx fb)) (hs : PlainIx b) : PE X (.Subscript a b pos) (tEv B Wx (s2 dIx fa fb)) :=
  (pe_ix (opD_ix hK) ha hb hs).imp' fun σ H Q h => tOp_of h
/-- name[b]: the slot's list is not given away -/
def sIxv (i : Nat) (fb : Rho → O D) : Rho → O D := fun ρ => match ρ[i]? with
  | some (some (.dat d)) => (fb ρ).bind fun y ρ2 => lift (dIx d y) ρ2
  | some (some (.own _)) => (fb ρ).bind fun y ρ2 => match ρ2[i]? with
    | some (some (.own l)) => lift (dIx (.list l) y) ρ2
    | _ => .no
  | some (some (.ref _)) => (fb ρ).bind fun y ρ2 => match ρ2[i]? with
    | some (some (.ref l)) => lift (dIx (.list l) y) ρ2
    | _ => .no
  | _ => .no
theorem r_ixv {i : Nat} {x : Str} {b : Expr} {ps pos : Pos} {fb : Rho → O D} (hK : X.K = B.K) (hN : X.N[i]? = some x) (hv : Vis X.env.scope x) (hd : (x == ("__debug__" : Str)) = false) (hcd : (x == ("__classdict__" : Str)) = false) (hb : PE X b (tEv B Wx fb)) (hs : PlainIx b) :
    PE X (.Subscript (.Name x ps) b pos) (tEv B Wx (sIxv i fb)) :=
  pe_late fun σ H Q ⟨S, ρ, G, E, P⟩ => by
    have heldc : ∀ l0, Hd ρ i l0 → (∀ l y z ρ2 H2 G2, EnvOk B S ρ2 σ H2 G2 → Hd ρ2 i l → dIx (.list l) y = some z → ∀ w, Dp B.K G2 w y → (∀ H' G', EnvOk B S ρ2 σ H' G' → Le G2 G' → ∀ u, Dp B.K G' u z → Q u H') → ∃ a, σ[i]? = some (some (.ref a)) ∧ rIxL X.K (.ref a) w H2 Q) := by
      intro l0 _ l y z ρ2 H2 G2 E2 h2 e w hw q
      obtain ⟨a, vs, k1, k2, k3, k4, k5, _⟩ := E2.held i l h2
      unfold dIx at e
      split at e
      · rename_i xs ii ex
        cases ex
        obtain ⟨t, t1, t2⟩ := atI_dp k4 e
        exact ⟨a, k1, a, vs, _, t, rfl, dint hw, SqL.of k2, t1, q H2 G2 E2 Le.refl _ t2⟩
      · rename_i ex; cases ex
      · rename_i ex; cases ex
      · cases e
    unfold sIxv at P
    split at P
    · rename_i d h
      obtain ⟨v, h1, h2⟩ := E.dat i d h
      refine ⟨_, pe_ix (opD_ix hK) (pe_var hN hv hd hcd) hb hs, ⟨v, h1, S, ρ, G, E, P.bind.imp fun y ρ2 H2 G2 E2 le2 q2 w hw => ?_⟩⟩
      cases e : dIx d y with
      | none => rw [e] at q2; exact False.elim q2
      | some z =>
        rw [e] at q2
        exact ⟨S, ρ2, σ, G2, d, y, z, E2, Dp.up le2 h2, hw, e, fun H' G' E' le u hu => q2 H' G' E' le u hu⟩
    · rename_i l0 h
      obtain ⟨a, vs, k1, _⟩ := E.held i l0 (.inl h)
      refine ⟨_, pe_ix ix_list (pe_var hN hv hd hcd) hb hs, ⟨.ref a, k1, S, ρ, G, E, P.bind.imp fun y ρ2 H2 G2 E2 le2 q2 w hw => ?_⟩⟩
      split at q2
      · rename_i l h2
        cases e : dIx (.list l) y with
        | none => rw [e] at q2; exact False.elim q2
        | some z =>
          rw [e] at q2
          obtain ⟨a', k1', r⟩ := heldc l0 (.inl h) l y z ρ2 H2 G2 E2 (.inl h2) e w hw fun H' G' E' le u hu => q2 H' G' E' le u hu
          rw [k1] at k1'; cases k1'
          exact r
      · exact False.elim q2
    · rename_i l0 h
      obtain ⟨a, vs, k1, _⟩ := E.held i l0 (.inr h)
      refine ⟨_, pe_ix ix_list (pe_var hN hv hd hcd) hb hs, ⟨.ref a, k1, S, ρ, G, E, P.bind.imp fun y ρ2 H2 G2 E2 le2 q2 w hw => ?_⟩⟩
      split at q2
      · rename_i l h2
        cases e : dIx (.list l) y with
        | none => rw [e] at q2; exact False.elim q2
        | some z =>
          rw [e] at q2
          obtain ⟨a', k1', r⟩ := heldc l0 (.inr h) l y z ρ2 H2 G2 E2 (.inr h2) e w hw fun H' G' E' le u hu => q2 H' G' E' le u hu
          rw [k1] at k1'; cases k1'
          exact r
      · exact False.elim q2
    · exact False.elim P
/-! ### slices -/
def cutL {α : Type} (xs : List α) (lo hi : Option Int) : List α := (xs.drop (HT.sIx xs.length 0 lo)).take (HT.sIx xs.length xs.length hi - HT.sIx xs.length 0 lo)
def dSl : D → Option Int → Option Int → Option D
  | .list xs, lo, hi => some (.list (cutL xs lo hi))
  | .tuple xs, lo, hi => some (.tuple (cutL xs lo hi))
  | .str z, lo, hi => if z.length ≤ 16777216 then some (.str (cutS z lo hi)) else none
  | _, _, _ => none
theorem cutL_whole {α : Type} {xs : List α} {lo hi : Option Int} (h : HT.sIx xs.length 0 lo = 0 ∧ HT.sIx xs.length xs.length hi = xs.length) : cutL xs lo hi = xs := by
  unfold cutL
  rw [h.1, h.2, List.drop_zero, Nat.sub_zero, List.take_length]
theorem cutV_le {xs : List V} {lo hi : Option Int} (h : xs.length ≤ sizeLine) : (cutV xs lo hi).length ≤ sizeLine := Nat.le_trans (cutV_length xs lo hi) h
theorem cut_dp {K : PySem.W.Frag} {G : Hp} {vs : List V} {ds : List D} (lo hi : Option Int) (h : DpAll K G vs ds) : DpAll K G (cutV vs lo hi) (cutL ds lo hi) := by
  unfold cutV cutL
  rw [h.length]
  exact (h.drop _).take _
def rDS (B : Bs) : V → Option Int → Option Int → Hp → VK → Prop := fun v lo hi H Q => ∃ S ρ σ G x z, EnvOk B S ρ σ H G ∧ Dp B.K G v x ∧ dSl x lo hi = some z ∧ ∀ H' G', EnvOk B S ρ σ H' G' → Le G G' → ∀ u, Dp B.K G' u z → Q u H'
theorem slD (hK : X.K = B.K) : SlR X (rDS B) := by
  intro pins s σ H v u vl vu lo hi sl Q I ru hs pl pu h
  obtain ⟨S, ρ, σ', G, x, z, E, hv, e, q⟩ := h
  unfold dSl at e
  split at e
  · cases e
    obtain ⟨a, xs, rfl, s1, a1⟩ := dlst hv
    refine sl_list pins s σ H _ u vl vu lo hi sl Q I ru hs pl pu ⟨a, xs, rfl, hK ▸ SqL.le E.sub s1, fun p hp => ?_⟩
    exact q _ (upd G p _) (E.new (o := .lst _) hp (fun _ => HO.noConfusion) (cutV_le (szl E s1))) (Le.upd (E.gnone hp)) _ (.lst (SqL.of upd_same) (DpAll.up (Le.upd (E.gnone hp)) (cut_dp lo hi a1)))
  · cases e
    obtain ⟨a, xs, rfl, s1, a1⟩ := dtup hv
    refine sl_tupA pins s σ H _ u vl vu lo hi sl Q I ru hs pl pu ⟨a, xs, rfl, hK ▸ SqT.le E.sub s1, fun hw => ?_, fun hw p hp => ?_⟩
    · refine q H G E Le.refl _ ?_
      rw [a1.length] at hw
      rw [cutL_whole hw]; exact hv
    · exact q _ (upd G p _) (E.new (o := .tup _) hp (fun _ => HO.noConfusion) (cutV_le (szt E s1))) (Le.upd (E.gnone hp)) _ (.tup (SqT.of upd_same) (DpAll.up (Le.upd (E.gnone hp)) (cut_dp lo hi a1)))
  · split at e
    · rename_i hz; cases e
      exact sl_str pins s σ H _ u vl vu lo hi sl Q I ru hs pl pu ⟨_, dstr hv, by rw [line_eq]; exact hz, q H G E Le.refl _ (.str _)⟩
    · cases e
  · cases e
def sPart (f : Option (Rho → O D)) : Rho → O (Option Int) := fun ρ => match f with
  | none => .ok none ρ
  | some f => (f ρ).bind fun x ρ1 => match x with
    | .int i => .ok (some i) ρ1
    | _ => .no
/-- a slice's part, read -/
def tPt (B : Bs) (Wx : WX) (f : Rho → O (Option Int)) : TO := fun σ H Q => ∃ S ρ G, EnvOk B S ρ σ H G ∧ Post B S Wx σ G (f ρ) (fun o _ H' _ => Q o H')
theorem rp_none : PO X none (tPt B Wx (sPart none)) := ⟨fun pins s σ H Q I ⟨S, ρ, G, E, P⟩ => po_none.run pins s σ H Q I (P H G E Le.refl)⟩
theorem rp_some {e : Expr} {f : Rho → O D} (h : PE X e (tEv B Wx f)) : PO X (some e) (tPt B Wx (sPart (some f))) := ⟨fun pins s σ H Q I ⟨S, ρ, G, E, P⟩ => (po_some h).run pins s σ H Q I (by
    refine ⟨S, ρ, G, E, P.bind.imp fun x ρ1 H1 G1 E1 le1 q v hv => ?_⟩
    split at q
    · exact ⟨_, dint hv, q H1 G1 E1 Le.refl⟩
    · exact False.elim q)⟩
def sSl (fa : Rho → O D) (fl fh : Rho → O (Option Int)) : Rho → O D := fun ρ => (fa ρ).bind fun x ρ1 => (fl ρ1).bind fun l ρ2 => (fh ρ2).bind fun h ρ3 => lift (dSl x l h) ρ3
theorem r_sl {e : Expr} {lo hi : Option Expr} {p2 pos : Pos} {fa : Rho → O D} {fl fh : Rho → O (Option Int)} (hK : X.K = B.K) (he : PE X e (tEv B Wx fa)) (hl : PO X lo (tPt B Wx fl)) (hh : PO X hi (tPt B Wx fh)) : PE X (.Subscript e (.Slice lo hi none p2) pos) (tEv B Wx (sSl fa fl fh)) :=
  (pe_slice (slD hK) he hl hh).imp' fun σ H Q ⟨S, ρ, G, E, P⟩ => by
    refine ⟨S, ρ, G, E, P.bind.imp fun x ρ1 H1 G1 E1 le1 q1 v hv => ?_⟩
    refine ⟨S, ρ1, G1, E1, q1.bind.imp fun l ρ2 H2 G2 E2 le2 q2 => ?_⟩
    refine ⟨S, ρ2, G2, E2, q2.bind.imp fun h ρ3 H3 G3 E3 le3 q3 => ?_⟩
    cases e : dSl x l h with
    | none => rw [e] at q3; exact False.elim q3
    | some z =>
      rw [e] at q3
      exact ⟨S, ρ3, σ, G3, x, z, E3, Dp.up (le2.trans le3) hv, e, fun H' G' E' le u hu => q3 H' G' E' le u hu⟩
/-- xs[::-1] of a list -/
def sRev (fa : Rho → O D) : Rho → O D := fun ρ => (fa ρ).bind fun x ρ1 => match x with
  | .list xs => .ok (.list xs.reverse) ρ1
  | _ => .no
theorem r_rev {e : Expr} {k : Nat} {p1 p2 p3 pos : Pos} {fa : Rho → O D} (hK : X.K = B.K) (he : PE X e (tEv B Wx fa)) : PE X (.Subscript e (.Slice none none (some (.UnaryOp .USub (.Constant (.int 1) k p1) p2)) p3) pos) (tEv B Wx (sRev fa)) :=
  (pe_revL he).imp' fun σ H Q ⟨S, ρ, G, E, P⟩ => by
    refine ⟨S, ρ, G, E, P.bind.imp fun x ρ1 H1 G1 E1 le1 q1 v hv => ?_⟩
    split at q1
    · obtain ⟨a, xs, rfl, s1, a1⟩ := dlst hv
      refine ⟨a, xs, rfl, hK ▸ SqL.le E1.sub s1, fun p hp => ?_⟩
      exact q1 _ (upd G1 p _) (E1.new (o := .lst _) hp (fun _ => HO.noConfusion) (show xs.reverse.length ≤ sizeLine by rw [List.length_reverse]; exact szl E1 s1)) (Le.upd (E1.gnone hp)) _ (.lst (SqL.of upd_same) (DpAll.up (Le.upd (E1.gnone hp)) a1.reverse))
    · exact False.elim q1
end
end Rf

set_option maxRecDepth 100000
set_option maxHeartbeats 4000000
namespace Rf
open PySem PySem.Spec PyProof.Rows L2
section
variable {X : Cx} {B : Bs} {Wx : WX}
/-! ### a situation of its own for a part -/
def reb (ρ : Rho) (σ : St) (H G : Hp) : Sit where
  W := fun a => H a = none ∨ (∃ i l, Hd ρ i l ∧ σ[i]? = some (some (.ref a))) ∨ ∃ (i : Nat) (ks : List (List Int)), ρ[i]? = some (some (C.dct ks)) ∧ σ[i]? = some (some (V.ref a))
  H0 := H
  G0 := G
  σ0 := σ
  ρ0 := ρ
  wn := fun _ h => .inl h
theorem EnvOk.reb {S : Sit} {ρ : Rho} {σ : St} {H G : Hp} (E : EnvOk B S ρ σ H G) : EnvOk B (reb ρ σ H G) ρ σ H G where
  sub := E.sub
  nt := E.nt
  sz := E.sz
  j := E.j
  keep := fun b o e _ _ => e
  there := fun b e => e
  gsub := fun b o e => e
  gnew := fun b o e => .inl e
  len := E.len
  dat := E.dat
  dct := fun i ks h => let ⟨a, h1, h2, h3, _⟩ := E.dct i ks h; ⟨a, h1, h2, h3, .inr (.inr ⟨i, ks, h, h1⟩)⟩
  raw := E.raw
  rel := E.rel
  dnq := E.dnq
  held := fun i l h => let ⟨a, vs, h1, h2, h3, h4, _, h6⟩ := E.held i l h; ⟨a, vs, h1, h2, h3, h4, .inr (.inl ⟨i, l, h, h1⟩), h6⟩
  ref := fun i l h => ⟨rfl, l, h⟩
  sep := E.sep
  isref := fun i l h => ⟨l, h⟩
theorem EnvOk.unreb {S : Sit} {ρ ρ' : Rho} {σ σ' : St} {H G H' G' : Hp} (E : EnvOk B S ρ σ H G) (E' : EnvOk B (Rf.reb ρ σ H G) ρ' σ' H' G') : EnvOk B S ρ' σ' H' G' := by
  have w : ∀ a, (Rf.reb ρ σ H G).W a → S.W a := fun a h => by
    rcases h with h | ⟨i, l, h, h1⟩ | ⟨i, ks, h, h1⟩
    · exact S.wn a (E.there a h)
    · obtain ⟨a', vs, k1, k2, k3, k4, k5, _⟩ := E.held i l h
      rw [h1] at k1; cases k1
      exact k5
    · obtain ⟨a', k1, k2, k3, k4⟩ := E.dct i ks h
      rw [h1] at k1; cases k1
      exact k4
  exact {
    sub := E'.sub
    nt := E'.nt
    sz := E'.sz
    j := E'.j
    keep := fun b o e n t => E'.keep b o (E.keep b o e n t) (fun z => n (w b z)) t
    there := fun b e => E.there b (E'.there b e)
    gsub := fun b o e => E'.gsub b o (E.gsub b o e)
    gnew := fun b o e => by
      rcases E'.gnew b o e with h | h
      · exact E.gnew b o h
      · exact .inr (w b h)
    len := E'.len
    dat := E'.dat
    dct := fun i ks h => let ⟨a, h1, h2, h3, h4⟩ := E'.dct i ks h; ⟨a, h1, h2, h3, w a h4⟩
    raw := E'.raw
    rel := E'.rel
    dnq := E'.dnq
    held := fun i l h => let ⟨a, vs, h1, h2, h3, h4, h5, h6⟩ := E'.held i l h; ⟨a, vs, h1, h2, h3, h4, w a h5, h6⟩
    ref := fun i l h => by
      obtain ⟨h1, l0, h2⟩ := E'.ref i l h
      obtain ⟨h3, h4⟩ := E.ref i l0 h2
      exact ⟨h1.trans h3, h4⟩
    sep := E'.sep
    isref := fun i l h => by
      obtain ⟨l1, h1⟩ := E.isref i l h
      exact E'.isref i l1 h1 }
/-- a list is no slot's dict -/
theorem EnvOk.nodct {S : Sit} {ρ : Rho} {σ : St} {H G : Hp} (E : EnvOk B S ρ σ H G) {p : Addr} {xs : List V} (hp : H p = some (.lst xs)) : ∀ (i : Nat) (ks : List (List Int)), ρ[i]? = some (some (C.dct ks)) → σ[i]? ≠ some (some (V.ref p)) := fun i ks h z => by
  obtain ⟨a, h1, h2, _⟩ := E.dct i ks h
  rw [z] at h1; cases h1
  rw [hp] at h2
  exact dk_lst _ (Option.some.inj h2).symm
/-- a list of no slot stays, and no slot gets it -/
theorem EnvOk.reb_keep {ρ ρ' : Rho} {σ σ' : St} {H G H' G' : Hp} {p : Addr} {o : HO} (E' : EnvOk B (Rf.reb ρ σ H G) ρ' σ' H' G') (hp : H p = some o) (nt : ∀ ps, o ≠ .tbl ps) (hg : G p = none) (lo : Loose ρ σ p) (nd : ∀ (i : Nat) (ks : List (List Int)), ρ[i]? = some (some (C.dct ks)) → σ[i]? ≠ some (some (V.ref p))) : H' p = some o ∧ G' p = none := by
  have nw : ¬ (Rf.reb ρ σ H G).W p := fun h => by
    rcases h with h | ⟨i, l, h, h1⟩ | ⟨i, ks, h, h1⟩
    · rw [hp] at h; cases h
    · exact lo i l h h1
    · exact nd i ks h h1
  refine ⟨E'.keep p o hp nw nt, ?_⟩
  cases q : G' p with
  | none => rfl
  | some u =>
    rcases E'.gnew p u q with h | h
    · have h : G p = some u := h
      rw [hg] at h; cases h
    · exact absurd h nw
theorem EnvOk.reb_loose {ρ ρ' : Rho} {σ σ' : St} {H G H' G' : Hp} {p : Addr} {o : HO} (E' : EnvOk B (Rf.reb ρ σ H G) ρ' σ' H' G') (hp : H p = some o) (lo : Loose ρ σ p) (nd : ∀ (i : Nat) (ks : List (List Int)), ρ[i]? = some (some (C.dct ks)) → σ[i]? ≠ some (some (V.ref p))) : Loose ρ' σ' p := fun i l h z => by
  obtain ⟨a, vs, h1, h2, h3, h4, h5, _⟩ := E'.held i l h
  rw [z] at h1; cases h1
  rcases h5 with h5 | ⟨j, m, h5, h6⟩ | ⟨j, ks, h5, h6⟩
  · rw [hp] at h5; cases h5
  · exact lo j m h5 h6
  · exact nd j ks h5 h6

/-! ### what is walked -/
def Feeds (B : Bs) (J : It) (G : Hp) (ds : List D) : Prop := ∀ S ρ σ H' G', EnvOk B S ρ σ H' G' → Le G G' →
  (∀ i d, ds[i]? = some d → J.go i H' ∧ ∀ x H'', J.yld i H' x H'' → ∃ G'', EnvOk B S ρ σ H'' G'' ∧ Le G' G'' ∧ Dp B.K G'' x d) ∧ J.stop ds.length H'
theorem Feeds.le {J : It} {G G' : Hp} {ds : List D} (h : Feeds B J G ds) (le : Le G G') : Feeds B J G' ds := fun S ρ σ H1 G1 E l => h S ρ σ H1 G1 E (le.trans l)
def tIt (B : Bs) (Wx : WX) (f : Rho → O (List D)) : TI := fun σ H R => ∃ S ρ G, EnvOk B S ρ σ H G ∧ Post B S Wx σ G (f ρ) (fun ds _ H' G' => ds.length ≤ sizeLine → ∀ J, Feeds B J G' ds → R J H')
theorem pi_late {tg e : Expr} {t : TI} (h : ∀ σ H R, t σ H R → ∃ t', PI X tg e t' ∧ t' σ H R) : PI X tg e t := ⟨fun pins s σ H R I q => let ⟨_, h1, h2⟩ := h σ H R q; h1.run pins s σ H R I h2⟩
def dItems : D → Option (List D)
  | .list xs => some xs
  | .tuple xs => some xs
  | _ => none
def sItems (fa : Rho → O D) : Rho → O (List D) := fun ρ => (fa ρ).bind fun x ρ1 => lift (dItems x) ρ1
theorem feeds_list (hK : X.K = B.K) {a : Addr} {xs : List V} {G : Hp} {ds : List D} (s1 : SqL B.K G a xs) (a1 : DpAll B.K G xs ds) : Feeds B (Itl X.K a) G ds := by
  intro S ρ σ H' G' E le
  have s2 : SqL X.K H' a xs := hK ▸ SqL.le (le.trans E.sub) s1
  refine ⟨fun i d hd => ?_, ⟨xs, s2, by rw [a1.length]; exact Nat.le_refl _⟩⟩
  obtain ⟨v, h1, h2⟩ := a1.get hd
  refine ⟨⟨xs, v, s2, h1⟩, fun x H'' h => ?_⟩
  obtain ⟨rfl, h⟩ := h
  have := h xs s2
  rw [h1] at this; cases this
  exact ⟨G', E, Le.refl, Dp.up le h2⟩
theorem feeds_tup (hK : X.K = B.K) {a : Addr} {xs : List V} {G : Hp} {ds : List D} (s1 : SqT B.K G a xs) (a1 : DpAll B.K G xs ds) : Feeds B (Itt X.K a) G ds := by
  intro S ρ σ H' G' E le
  have s2 : SqT X.K H' a xs := hK ▸ SqT.le (le.trans E.sub) s1
  refine ⟨fun i d hd => ?_, ⟨xs, s2, by rw [a1.length]; exact Nat.le_refl _⟩⟩
  obtain ⟨v, h1, h2⟩ := a1.get hd
  refine ⟨⟨xs, v, s2, h1⟩, fun x H'' h => ?_⟩
  obtain ⟨rfl, h⟩ := h
  have := h xs s2
  rw [h1] at this; cases this
  exact ⟨G', E, Le.refl, Dp.up le h2⟩
theorem ri_items {tg e : Expr} {fa : Rho → O D} (hK : X.K = B.K) (he : PE X e (tEv B Wx fa)) : PI X tg e (tIt B Wx (sItems fa)) :=
  pi_late fun σ H R ⟨S, ρ, G, E, P⟩ => by
    have P1 := P.bind
    cases q : fa ρ with
    | no => rw [q] at P1; exact False.elim P1
    | ex x ρ1 =>
      rw [q] at P1
      exact ⟨_, pi_list he, ⟨S, ρ, G, E, by rw [q]; exact P1⟩⟩
    | ok x ρ1 =>
      rw [q] at P1
      cases x with
      | list xs =>
        refine ⟨_, pi_list he, ⟨S, ρ, G, E, ?_⟩⟩
        rw [q]
        intro H1 G1 E1 le1 v hv
        obtain ⟨a, ys, rfl, s1, a1⟩ := dlst hv
        exact ⟨a, rfl, ⟨ys, hK ▸ SqL.le E1.sub s1⟩, P1 H1 G1 E1 le1 H1 G1 E1 Le.refl (by rw [← a1.length]; exact szl E1 s1) _ (feeds_list hK s1 a1)⟩
      | tuple xs =>
        refine ⟨_, pi_tup he, ⟨S, ρ, G, E, ?_⟩⟩
        rw [q]
        intro H1 G1 E1 le1 v hv
        obtain ⟨a, ys, rfl, s1, a1⟩ := dtup hv
        exact ⟨a, rfl, ⟨ys, hK ▸ SqT.le E1.sub s1⟩, P1 H1 G1 E1 le1 H1 G1 E1 Le.refl (by rw [← a1.length]; exact szt E1 s1) _ (feeds_tup hK s1 a1)⟩
      | none => exact (show False by have := P; unfold sItems at this; rw [q] at this; exact this).elim
      | bool _ => exact (show False by have := P; unfold sItems at this; rw [q] at this; exact this).elim
      | int _ => exact (show False by have := P; unfold sItems at this; rw [q] at this; exact this).elim
      | str _ => exact (show False by have := P; unfold sItems at this; rw [q] at this; exact this).elim
      | dict _ => exact (show False by have := P; unfold sItems at this; rw [q] at this; exact this).elim
end
end Rf

set_option maxRecDepth 100000
set_option maxHeartbeats 4000000
namespace Rf
open PySem PySem.Spec PyProof.Rows L2
/-! ### targets -/
inductive Tg where | nm (i : Nat) | tp (is : List Nat)
def Tg.slots : Tg → List Nat
  | .nm i => [i]
  | .tp is => is
def bindN (i : Nat) (d : D) (ρ : Rho) : Option Rho := match ρ[i]? with
  | none => none
  | some (some (.ref _)) => none
  | some _ => some (ρ.set i (some (.dat d)))
def bindL : List Nat → List D → Rho → Option Rho
  | [], [], ρ => some ρ
  | i :: is, d :: ds, ρ => (bindN i d ρ).bind (bindL is ds)
  | _, _, _ => none
def bindT : Tg → D → Rho → Option Rho
  | .nm i, d, ρ => bindN i d ρ
  | .tp is, .tuple ds, ρ => bindL is ds ρ
  | _, _, _ => none
def Off (is : List Nat) (σ σ' : St) : Prop := σ'.length = σ.length ∧ ∀ j : Nat, j ∉ is → σ'[j]? = σ[j]?
theorem Off.refl {is : List Nat} {σ : St} : Off is σ σ := ⟨rfl, fun _ _ => rfl⟩
theorem Off.trans {is : List Nat} {σ σ' σ'' : St} (a : Off is σ σ') (b : Off is σ' σ'') : Off is σ σ'' := ⟨b.1.trans a.1, fun j h => (b.2 j h).trans (a.2 j h)⟩
theorem Off.mono {is js : List Nat} {σ σ' : St} (a : Off is σ σ') (h : ∀ i ∈ is, i ∈ js) : Off js σ σ' := ⟨a.1, fun j n => a.2 j fun m => n (h j m)⟩
theorem Off.set {i : Nat} {σ : St} {x : Option V} : Off [i] σ (σ.set i x) := ⟨List.length_set .., fun j h => List.getElem?_set_ne (fun e => h (by simp [e]))⟩
theorem _root_.L2.PG.imp' {X : Cx} {e : Expr} {t t' : TG} (h : PG X e t) (i : ∀ v σ H Q, t' v σ H Q → t v σ H Q) : PG X e t' := ⟨fun pins s σ H v u Q I r q => h.run pins s σ H v u Q I r (i v σ H Q q)⟩
theorem _root_.L2.PGs.imp' {X : Cx} {e : List Expr} {t t' : TGs} (h : PGs X e t) (i : ∀ v σ H Q, t' v σ H Q → t v σ H Q) : PGs X e t' := ⟨fun pins s σ H v u Q I r q => h.run pins s σ H v u Q I r (i v σ H Q q)⟩
section
variable {X : Cx} {B : Bs} {Wx : WX}
theorem EnvOk.bindN {S : Sit} {ρ ρ' : Rho} {σ : St} {H G : Hp} {i : Nat} {v : V} {d : D} (E : EnvOk B S ρ σ H G) (h : Rf.bindN i d ρ = some ρ') (hd : Dp B.K G v d) : EnvOk B S ρ' (σ.set i (some v)) H G := by
  unfold Rf.bindN at h
  split at h
  · cases h
  · cases h
  · rename_i c n h1
    cases h
    exact E.put hd fun l z => by
      rw [h1] at z
      exact n l (Option.some.inj z)
/-- a target, by data -/
def tTg (B : Bs) (t : Tg) : TG := fun v σ H Q => ∃ S ρ G d ρ', EnvOk B S ρ σ H G ∧ Dp B.K G v d ∧ bindT t d ρ = some ρ' ∧ ∀ σ', EnvOk B S ρ' σ' H G → Off t.slots σ σ' → Q σ' H
def tTgs (B : Bs) (is : List Nat) : TGs := fun vs σ H Q => ∃ S ρ G ds ρ', EnvOk B S ρ σ H G ∧ DpAll B.K G vs ds ∧ bindL is ds ρ = some ρ' ∧ ∀ σ', EnvOk B S ρ' σ' H G → Off is σ σ' → Q σ' H
theorem rg_name {i : Nat} {x : Str} {pos : Pos} (hN : X.N.Nodup) (hi : X.N[i]? = some x) (hx : Loc X.env.scope x) (hf : X.fn x = true ∨ X.env.scope.names.lookup x = some .local) : PG X (.Name x pos) (tTg B (.nm i)) :=
  (pg_name hN hi hx hf).imp' fun v σ H Q ⟨S, ρ, G, d, ρ', E, hd, e, q⟩ => q _ (E.bindN e hd) Off.set
theorem rgs_nil : PGs X [] (tTgs B []) := pgs_nil.imp' fun vs σ H Q ⟨S, ρ, G, ds, ρ', E, hd, e, q⟩ => by
  cases ds with
  | nil => cases hd; cases e; exact ⟨rfl, q σ E Off.refl⟩
  | cons d ds => cases e
theorem rgs_cons {i : Nat} {is : List Nat} {x : Str} {pos : Pos} {es : List Expr} (hN : X.N.Nodup) (hi : X.N[i]? = some x) (hx : Loc X.env.scope x) (hf : X.fn x = true ∨ X.env.scope.names.lookup x = some .local) (h : PGs X es (tTgs B is))
    (hs : (assignEach (.Name x pos :: es) X.env).map (·.2) = assign (.Name x pos) X.env :: (assignEach es X.env).map (·.2)) : PGs X (.Name x pos :: es) (tTgs B (i :: is)) :=
  (pgs_cons (pg_name hN hi hx hf) h hs).imp' fun vs σ H Q ⟨S, ρ, G, ds, ρ', E, hd, e, q⟩ => by
    cases ds with
    | nil => cases e
    | cons d ds =>
      cases hd with
      | cons hv hr =>
        rename_i v vr _
        have e : (bindN i d ρ).bind (bindL is ds) = some ρ' := e
        cases e1 : bindN i d ρ with
        | none => rw [e1] at e; cases e
        | some ρ1 =>
          rw [e1] at e
          exact ⟨v, vr, rfl, S, ρ1, G, ds, ρ', E.bindN e1 hv, hr, e, fun σ' E' o => q σ' E' ((Off.set.mono fun j hj => by simp at hj; simp [hj]).trans (o.mono fun j hj => List.mem_cons_of_mem _ hj))⟩
theorem bindL_len : ∀ {is : List Nat} {ds : List D} {ρ ρ' : Rho}, bindL is ds ρ = some ρ' → is.length = ds.length
  | [], [], _, _, _ => rfl
  | [], _ :: _, _, _, h => by cases h
  | _ :: _, [], _, _, h => by cases h
  | i :: is, d :: ds, ρ, ρ', h => by
    have e : (bindN i d ρ).bind (bindL is ds) = some ρ' := h
    cases e1 : bindN i d ρ with
    | none => rw [e1] at e; cases e
    | some ρ1 =>
      rw [e1] at e
      rw [List.length_cons, List.length_cons, bindL_len (is := is) (ds := ds) e]
theorem rg_tup {is : List Nat} {es : List Expr} {k : Nat} {pos : Pos} (hK : X.K = B.K) (hc : X.calm = true) (h : PGs X es (tTgs B is)) (hn : (assignEach es X.env).length = is.length) (hst : (assignEach es X.env).findIdx? (·.1) = none) : PG X (.Tuple es k pos) (tTg B (.tp is)) :=
  (pg_tup hc h hn hst).imp' fun v σ H Q ⟨S, ρ, G, d, ρ', E, hd, e, q⟩ => by
    cases d with
    | tuple ds =>
      obtain ⟨a, xs, rfl, s1, a1⟩ := dtup hd
      exact ⟨a, xs, rfl, hK ▸ SqT.le E.sub s1, by rw [a1.length]; exact (bindL_len e).symm, S, ρ, G, ds, ρ', E, a1, e, q⟩
    | none => cases e
    | bool _ => cases e
    | int _ => cases e
    | str _ => cases e
    | list _ => cases e
    | dict _ => cases e

/-! ### what is walked: ranges, pairs -/
def rangeD (lo : Int) (n : Nat) : List D := (List.range n).map fun (i : Nat) => PyData.int (lo + (i : Int))
theorem rangeD_get {lo : Int} {n i : Nat} {d : D} (h : (rangeD lo n)[i]? = some d) : i < n ∧ d = .int (lo + (i : Int)) := by
  unfold rangeD at h
  rw [List.getElem?_map] at h
  cases e : (List.range n)[i]? with
  | none => rw [e] at h; cases h
  | some j =>
    rw [e] at h
    have hi := (List.getElem?_eq_some_iff.mp e).1
    have hj : (List.range n)[i]? = some i := by simp at hi; simp [hi]
    rw [hj] at e; cases e
    cases h
    exact ⟨by simpa using hi, rfl⟩
theorem rangeD_length {lo : Int} {n : Nat} : (rangeD lo n).length = n := by simp [rangeD]
theorem feeds_range {lo : Int} {n : Nat} {G : Hp} : Feeds B (Itr lo n) G (rangeD lo n) := by
  intro S ρ σ H' G' E le
  refine ⟨fun i d hd => ?_, by rw [rangeD_length]; exact Nat.le_refl _⟩
  obtain ⟨hi, rfl⟩ := rangeD_get hd
  refine ⟨hi, fun x H'' h => ?_⟩
  obtain ⟨rfl, rfl⟩ := h
  exact ⟨G', E, Le.refl, .int _⟩
def sRng (fa : Rho → O (List D)) : Rho → O (List D) := fun ρ => (fa ρ).bind fun ds ρ1 => match ds with
  | [.int j] => if -(2 ^ 62) ≤ j ∧ j ≤ 16777216 then .ok (rangeD 0 j.toNat) ρ1 else .no
  | [.int i, .int j] => if -(2 ^ 62) ≤ i ∧ i < 2 ^ 62 ∧ -(2 ^ 62) ≤ j ∧ j < 2 ^ 62 ∧ j - i ≤ 16777216 then .ok (rangeD i (j - i).toNat) ρ1 else .no
  | _ => .no
theorem ri_rng1 {tg a : Expr} {p pos : Pos} {fa : Rho → O (List D)} (hg : Gl X "range") (hm : X.mg "range" = none) (ha : PA X [a] (tEs B Wx fa)) (hs : starEach [a] X.env = [(false, eval a X.env)])
    (h1 : ∀ ρ ds ρ1, fa ρ = .ok ds ρ1 → ds.length = 1) : PI X tg (.Call (.Name "range" p) [a] [] pos) (tIt B Wx (sRng fa)) :=
  pi_late fun σ H R ⟨S, ρ, G, E, P⟩ => by
    refine ⟨_, pi_range1 hg hm ha hs, ⟨S, ρ, G, E, ?_⟩⟩
    have P1 := P.bind
    cases q : fa ρ with
    | no => rw [q] at P1; exact P1
    | ex e ρ1 => rw [q] at P1; exact P1
    | ok ds ρ1 =>
      rw [q] at P1
      have hl := h1 ρ ds ρ1 q
      match ds, hl with
      | [d], _ =>
        intro H1 G1 E1 le1 vs hvs
        have P2 := P1 H1 G1 E1 le1
        cases hvs with
        | cons hv hr =>
          cases hr
          cases d with
          | int j =>
            rw [dint hv]
            dsimp only at P2
            split at P2
            · rename_i hj
              exact ⟨j, rfl, hj.1, by omega, P2 H1 G1 E1 Le.refl (by rw [rangeD_length, line_eq]; omega) _ feeds_range⟩
            · exact False.elim P2
          | _ => exact False.elim P2
theorem ri_rng2 {tg a b : Expr} {p pos : Pos} {fa : Rho → O (List D)} (hg : Gl X "range") (hm : X.mg "range" = none) (ha : PA X [a, b] (tEs B Wx fa)) (hs : starEach [a, b] X.env = [(false, eval a X.env), (false, eval b X.env)]) (hs2 : starEach [b] X.env = [(false, eval b X.env)])
    (h1 : ∀ ρ ds ρ1, fa ρ = .ok ds ρ1 → ds.length = 2) : PI X tg (.Call (.Name "range" p) [a, b] [] pos) (tIt B Wx (sRng fa)) :=
  pi_late fun σ H R ⟨S, ρ, G, E, P⟩ => by
    refine ⟨_, pi_range2 hg hm ha hs hs2, ⟨S, ρ, G, E, ?_⟩⟩
    have P1 := P.bind
    cases q : fa ρ with
    | no => rw [q] at P1; exact P1
    | ex e ρ1 => rw [q] at P1; exact P1
    | ok ds ρ1 =>
      rw [q] at P1
      have hl := h1 ρ ds ρ1 q
      match ds, hl with
      | [d, d2], _ =>
        intro H1 G1 E1 le1 vs hvs
        have P2 := P1 H1 G1 E1 le1
        cases hvs with
        | cons hv hr =>
          cases hr with
          | cons hw hr =>
            cases hr
            cases d with
            | int i =>
              cases d2 with
              | int j =>
                rw [dint hv, dint hw]
                dsimp only at P2
                split at P2
                · rename_i hj
                  exact ⟨i, j, rfl, ⟨hj.1, hj.2.1, hj.2.2.1, hj.2.2.2.1⟩, P2 H1 G1 E1 Le.refl (by rw [rangeD_length, line_eq]; omega) _ feeds_range⟩
                · exact False.elim P2
              | _ => exact False.elim P2
            | _ => exact False.elim P2
def pairD : D → D → D := fun a b => .tuple [a, b]
theorem pair_new {S : Sit} {ρ : Rho} {σ : St} {H G : Hp} {T : Addr} {x y : V} {a b : D} (E : EnvOk B S ρ σ H G) (hT : H T = none) (hx : Dp B.K G x a) (hy : Dp B.K G y b) :
    ∃ G'', EnvOk B S ρ σ (upd H T (.tup [x, y])) G'' ∧ Le G G'' ∧ Dp B.K G'' (.ref T) (pairD a b) :=
  ⟨_, E.new hT (fun _ => HO.noConfusion) (show 2 ≤ sizeLine by decide), Le.upd (E.gnone hT), .tup (SqT.of upd_same) (DpAll.up (Le.upd (E.gnone hT)) (.cons hx (.cons hy .nil)))⟩
theorem zipWith_get {α β γ : Type} {f : α → β → γ} {xs : List α} {ys : List β} {i : Nat} {c : γ} (h : (List.zipWith f xs ys)[i]? = some c) : ∃ a b, xs[i]? = some a ∧ ys[i]? = some b ∧ c = f a b := by
  rw [List.getElem?_zipWith] at h
  split at h
  · rename_i a b h1 h2
    exact ⟨a, b, h1, h2, (Option.some.inj h).symm⟩
  · cases h
theorem feeds_zipL (hK : X.K = B.K) {a b : Addr} {xs ys : List V} {ds es : List D} {G : Hp} (s1 : SqL B.K G a xs) (a1 : DpAll B.K G xs ds) (t1 : SqL B.K G b ys) (b1 : DpAll B.K G ys es) : Feeds B (Itz X.K a b) G (List.zipWith pairD ds es) := by
  intro S ρ σ H' G' E le
  have s2 : SqL X.K H' a xs := hK ▸ SqL.le (le.trans E.sub) s1
  have t2 : SqL X.K H' b ys := hK ▸ SqL.le (le.trans E.sub) t1
  refine ⟨fun i d hd => ?_, ⟨xs, ys, s2, t2, ?_⟩⟩
  · obtain ⟨u, w, h1, h2, rfl⟩ := zipWith_get hd
    obtain ⟨v, h3, h4⟩ := a1.get h1
    obtain ⟨z, h5, h6⟩ := b1.get h2
    refine ⟨⟨xs, ys, v, z, s2, t2, h3, h5⟩, fun x H'' h => ?_⟩
    obtain ⟨T, x', y', rfl, hT, rfl, hx, hy⟩ := h
    have e1 := hx xs s2
    have e2 := hy ys t2
    rw [h3] at e1; rw [h5] at e2
    cases e1; cases e2
    exact pair_new E hT (Dp.up le h4) (Dp.up le h6)
  · rw [List.length_zipWith, a1.length, b1.length]; omega
theorem feeds_zipT (hK : X.K = B.K) {a b : Addr} {xs ys : List V} {ds es : List D} {G : Hp} (s1 : SqT B.K G a xs) (a1 : DpAll B.K G xs ds) (t1 : SqT B.K G b ys) (b1 : DpAll B.K G ys es) : Feeds B (RZ.ItzT X.K a b) G (List.zipWith pairD ds es) := by
  intro S ρ σ H' G' E le
  have s2 : SqT X.K H' a xs := hK ▸ SqT.le (le.trans E.sub) s1
  have t2 : SqT X.K H' b ys := hK ▸ SqT.le (le.trans E.sub) t1
  refine ⟨fun i d hd => ?_, ⟨xs, ys, s2, t2, ?_⟩⟩
  · obtain ⟨u, w, h1, h2, rfl⟩ := zipWith_get hd
    obtain ⟨v, h3, h4⟩ := a1.get h1
    obtain ⟨z, h5, h6⟩ := b1.get h2
    refine ⟨⟨xs, ys, v, z, s2, t2, h3, h5⟩, fun x H'' h => ?_⟩
    obtain ⟨T, x', y', rfl, hT, rfl, hx, hy⟩ := h
    have e1 := hx xs s2
    have e2 := hy ys t2
    rw [h3] at e1; rw [h5] at e2
    cases e1; cases e2
    exact pair_new E hT (Dp.up le h4) (Dp.up le h6)
  · rw [List.length_zipWith, a1.length, b1.length]; omega
def sZip (fa : Rho → O (List D)) : Rho → O (List D) := fun ρ => (fa ρ).bind fun ds ρ1 => match ds with
  | [.list xs, .list ys] => .ok (List.zipWith pairD xs ys) ρ1
  | [.tuple xs, .tuple ys] => .ok (List.zipWith pairD xs ys) ρ1
  | _ => .no
theorem ri_zip {e e2 : Expr} {p pos tpos : Pos} {elts : List Expr} {kk : Nat} {fa : Rho → O (List D)} (hK : X.K = B.K) (hg : Gl X "zip") (hm : X.mg "zip" = none) (ha : PA X [e, e2] (tEs B Wx fa)) (hs : starEach [e, e2] X.env = (false, eval e X.env) :: starEach [e2] X.env)
    (hpl : (backTo pos (starEach [e2] X.env)).any (·.1) = false) : PI X (.Tuple elts kk tpos) (.Call (.Name "zip" p) [e, e2] [] pos) (tIt B Wx (sZip fa)) :=
  pi_late fun σ H R ⟨S, ρ, G, E, P⟩ => by
    refine ⟨_, RZ.pi_zipA hg hm ha hs hpl, ⟨S, ρ, G, E, P.bind.imp fun ds ρ1 H1 G1 E1 le1 P2 vs hvs => ?_⟩⟩
    split at P2
    · cases hvs with
      | cons hv hr =>
        cases hr with
        | cons hw hr =>
          cases hr
          obtain ⟨a, xs, rfl, s1, a1⟩ := dlst hv
          obtain ⟨b, ys, rfl, t1, b1⟩ := dlst hw
          exact ⟨a, b, xs, ys, rfl, .inl ⟨hK ▸ SqL.le E1.sub s1, hK ▸ SqL.le E1.sub t1, P2 H1 G1 E1 Le.refl (by rw [List.length_zipWith, ← a1.length]; have := szl E1 s1; omega) _ (feeds_zipL hK s1 a1 t1 b1)⟩⟩
    · cases hvs with
      | cons hv hr =>
        cases hr with
        | cons hw hr =>
          cases hr
          obtain ⟨a, xs, rfl, s1, a1⟩ := dtup hv
          obtain ⟨b, ys, rfl, t1, b1⟩ := dtup hw
          exact ⟨a, b, xs, ys, rfl, .inr ⟨hK ▸ SqT.le E1.sub s1, hK ▸ SqT.le E1.sub t1, P2 H1 G1 E1 Le.refl (by rw [List.length_zipWith, ← a1.length]; have := szt E1 s1; omega) _ (feeds_zipT hK s1 a1 t1 b1)⟩⟩
    · exact False.elim P2
def enumD (xs : List D) : List D := List.zipWith pairD (rangeD 0 xs.length) xs
def sEnum (fa : Rho → O (List D)) : Rho → O (List D) := fun ρ => (fa ρ).bind fun ds ρ1 => match ds with
  | [.list xs] => .ok (enumD xs) ρ1
  | _ => .no
theorem ri_enum {e : Expr} {p pos tpos : Pos} {elts : List Expr} {kk : Nat} {fa : Rho → O (List D)} (hK : X.K = B.K) (hg : Gl X "enumerate") (hm : X.mg "enumerate" = none) (ha : PA X [e] (tEs B Wx fa)) (hs : starEach [e] X.env = [(false, eval e X.env)]) :
    PI X (.Tuple elts kk tpos) (.Call (.Name "enumerate" p) [e] [] pos) (tIt B Wx (sEnum fa)) :=
  pi_late fun σ H R ⟨S, ρ, G, E, P⟩ => by
    refine ⟨_, pi_enum hg hm ha hs, ⟨S, ρ, G, E, P.bind.imp fun ds ρ1 H1 G1 E1 le1 P2 vs hvs => ?_⟩⟩
    split at P2
    · cases hvs with
      | cons hv hr =>
        cases hr
        obtain ⟨a, xs, rfl, s1, a1⟩ := dlst hv
        refine ⟨a, xs, rfl, hK ▸ SqL.le E1.sub s1, P2 H1 G1 E1 Le.refl (by unfold enumD; rw [List.length_zipWith, ← a1.length]; have := szl E1 s1; omega) _ ?_⟩
        intro S ρ σ H' G' E le
        have s2 : SqL X.K H' a xs := hK ▸ SqL.le (le.trans E.sub) s1
        refine ⟨fun i d hd => ?_, ⟨xs, s2, ?_⟩⟩
        · obtain ⟨u, w, h1, h2, rfl⟩ := zipWith_get hd
          obtain ⟨_, rfl⟩ := rangeD_get h1
          obtain ⟨z, h5, h6⟩ := a1.get h2
          refine ⟨⟨xs, z, s2, h5⟩, fun x H'' h => ?_⟩
          obtain ⟨T, x', rfl, hT, rfl, hx⟩ := h
          have e1 := hx xs s2
          rw [h5] at e1; cases e1
          have := pair_new (x := .int (i : Nat)) (y := z) (a := .int (0 + (i : Int))) (b := w) E hT (by rw [Int.zero_add]; exact .int _) (Dp.up le h6)
          exact this
        · unfold enumD
          rw [List.length_zipWith, rangeD_length, a1.length]; omega
    · exact False.elim P2
end
end Rf

set_option maxRecDepth 100000
set_option maxHeartbeats 4000000
namespace Rf
open PySem PySem.Spec PyProof.Rows L2
/-! ### comprehensions -/
def wipeR (ρ : Rho) : List Nat → Rho
  | [] => ρ
  | v :: vs => (wipeR ρ vs).set v none
def restR (ρ0 ρ : Rho) : List Nat → Rho
  | [] => ρ
  | v :: vs => (restR ρ0 ρ vs).set v ((ρ0[v]?).getD none)
def plainC : Option (Option C) → Bool
  | some none => true
  | some (some (.dat _)) => true
  | _ => false
def notHeld (ρ : Rho) (vs : List Nat) : Bool := vs.all fun i => plainC ρ[i]?
def lcGo (t : Tg) (vs : List Nat) (fc fe : Rho → O D) : List D → Rho → O (List D)
  | [], ρ => .ok [] ρ
  | x :: xs, ρ => match bindT t x ρ with
    | none => .no
    | some ρ1 => match fc ρ1 with
      | .ok (.bool true) ρ2 => match fe ρ2 with
        | .ok y ρ3 => match lcGo t vs fc fe xs (wipeR ρ3 vs) with
          | .ok ys ρ4 => .ok (y :: ys) ρ4
          | _ => .no
        | _ => .no
      | .ok (.bool false) ρ2 => lcGo t vs fc fe xs (wipeR ρ2 vs)
      | _ => .no
def sLc (t : Tg) (vs : List Nat) (fi : Rho → O (List D)) (fc fe : Rho → O D) : Rho → O (List D) := fun ρ => (fi ρ).bind fun xs ρ1 =>
  if notHeld ρ1 vs then match lcGo t vs fc fe xs (wipeR ρ1 vs) with
    | .ok ys ρ2 => .ok ys (restR ρ1 ρ2 vs)
    | _ => .no
  else .no
theorem wipeR_length (ρ : Rho) : ∀ vs, (wipeR ρ vs).length = ρ.length
  | [] => rfl
  | v :: vs => by unfold wipeR; rw [List.length_set, wipeR_length ρ vs]
theorem restR_length (ρ0 ρ : Rho) : ∀ vs, (restR ρ0 ρ vs).length = ρ.length
  | [] => rfl
  | v :: vs => by unfold restR; rw [List.length_set, restR_length ρ0 ρ vs]
theorem wipeR_out {ρ : Rho} {i : Nat} : ∀ {vs : List Nat}, i ∉ vs → (wipeR ρ vs)[i]? = ρ[i]?
  | [], _ => rfl
  | v :: vs, h => by
    have h1 : v ≠ i := fun e => h (by rw [e]; exact List.mem_cons_self)
    unfold wipeR
    rw [List.getElem?_set_ne h1]
    exact wipeR_out fun m => h (List.mem_cons_of_mem _ m)
theorem restR_out {ρ0 ρ : Rho} {i : Nat} : ∀ {vs : List Nat}, i ∉ vs → (restR ρ0 ρ vs)[i]? = ρ[i]?
  | [], _ => rfl
  | v :: vs, h => by
    have h1 : v ≠ i := fun e => h (by rw [e]; exact List.mem_cons_self)
    unfold restR
    rw [List.getElem?_set_ne h1]
    exact restR_out fun m => h (List.mem_cons_of_mem _ m)
theorem restR_in {ρ0 ρ : Rho} {i : Nat} (hl : i < ρ.length) : ∀ {vs : List Nat}, i ∈ vs → (restR ρ0 ρ vs)[i]? = some ((ρ0[i]?).getD none)
  | [], h => by cases h
  | v :: vs, h => by
    unfold restR
    by_cases e : v = i
    · subst e
      rw [List.getElem?_set_self (by rw [restR_length]; exact hl)]
    · rw [List.getElem?_set_ne e]
      rcases List.mem_cons.mp h with h | h
      · exact absurd h.symm e
      · exact restR_in hl h
theorem wipe_ext {σ σ' : St} (hl : σ'.length = σ.length) : ∀ {vs : List Nat}, (∀ j : Nat, j ∉ vs → σ'[j]? = σ[j]?) → wipe σ' vs = wipe σ vs := by
  intro vs h
  have key : ∀ (τ : St) (vs : List Nat) (j : Nat), j ∈ vs → (wipe τ vs)[j]? = if j < τ.length then some none else none := by
    intro τ vs
    induction vs with
    | nil => intro j h; cases h
    | cons v vs ih =>
      intro j hj
      unfold wipe
      by_cases e : v = j
      · subst e
        by_cases q : v < τ.length
        · rw [List.getElem?_set_self (by rw [wipe_length]; exact q), if_pos q]
        · rw [if_neg q, List.getElem?_eq_none (by rw [List.length_set, wipe_length]; omega)]
      · rw [List.getElem?_set_ne e]
        rcases List.mem_cons.mp hj with hj | hj
        · exact absurd hj.symm e
        · exact ih j hj
  apply List.ext_getElem?
  intro j
  by_cases m : j ∈ vs
  · rw [key σ' vs j m, key σ vs j m, hl]
  · rw [wipe_out m, wipe_out m, h j m]
section
variable {X : Cx} {B : Bs} {Wx : WX} {S : Sit} {ρ : Rho} {σ : St} {H G : Hp}
/-- slots that hold no list are forgotten -/
theorem EnvOk.wipe (E : EnvOk B S ρ σ H G) : ∀ {vs : List Nat}, (∀ i : Nat, i ∈ vs → ∀ l, ρ[i]? ≠ some (some (.ref l))) → EnvOk B S (wipeR ρ vs) (L2.wipe σ vs) H G
  | [], _ => E
  | v :: vs, h => by
    have ih := E.wipe (vs := vs) fun i hi => h i (List.mem_cons_of_mem _ hi)
    refine ih.drop (i := v) fun l z => ?_
    by_cases m : v ∈ vs
    · have : ∀ ws : List Nat, v ∈ ws → (wipeR ρ ws)[v]? ≠ some (some (.ref l)) := by
        intro ws
        induction ws with
        | nil => intro h; cases h
        | cons w ws ih =>
          intro hw z
          unfold wipeR at z
          rcases get_set z with ⟨_, z⟩ | ⟨q, z⟩
          · cases z
          · rcases List.mem_cons.mp hw with e | e
            · exact q e.symm
            · exact ih e z
      exact this vs m z
    · rw [wipeR_out m] at z
      exact h v List.mem_cons_self l z
/-- a list of no slot changes -/
theorem EnvOk.upl (E : EnvOk B S ρ σ H G) {p : Addr} {vs ws : List V} (hp : H p = some (.lst vs)) (hg : G p = none) (hw : S.W p) (lo : Loose ρ σ p) : EnvOk B S ρ σ (upd H p (.lst ws)) G where
  sub := fun b o e => by rw [upd_ne (ne_of_none e hg)]; exact E.sub b o e
  nt := E.nt
  sz := E.sz
  j := B.js H _ E.j fun b o e n _ => by
    rw [upd_ne]
    · exact e
    · intro z; rw [z, hp] at e; exact n vs (Option.some.inj e).symm
  keep := fun b o e n t => by
    rw [upd_ne (fun z => n (by rw [z]; exact hw))]
    exact E.keep b o e n t
  there := fun b e => by
    by_cases q : b = p
    · rw [q, upd_same] at e; cases e
    · rw [upd_ne q] at e; exact E.there b e
  gsub := E.gsub
  gnew := E.gnew
  len := E.len
  dat := E.dat
  dct := fun i ks h => by
    obtain ⟨a, h1, h2, h3⟩ := E.dct i ks h
    exact ⟨a, h1, by rw [upd_ne (fun z => E.nodct hp i ks h (by rw [h1, z]))]; exact h2, h3⟩
  raw := E.raw
  rel := E.rel
  dnq := E.dnq
  held := fun i l h => by
    obtain ⟨a, us, h1, h2, h3, h4, h5⟩ := E.held i l h
    refine ⟨a, us, h1, ?_, h3, h4, h5⟩
    rw [upd_ne]
    · exact h2
    · intro z; rw [z] at h1; exact lo i l h h1
  ref := E.ref
  sep := E.sep
  isref := E.isref
/-- slots that were forgotten hold again what they held -/
theorem EnvOk.rest {ρ1 ρ2 : Rho} {vs : List Nat} {H1 G1 : Hp} (E1 : EnvOk B S ρ1 σ H1 G1) (n : notHeld ρ1 vs = true) (E : EnvOk B S ρ2 (L2.wipe σ vs) H G) (le : Le G1 G) (cl : ∀ i : Nat, i ∈ vs → ∀ c, ρ2[i]? ≠ some (some c)) : EnvOk B S (restR ρ1 ρ2 vs) σ H G := by
  have hl : ρ2.length = σ.length := by rw [E.len, wipe_length]
  have nh : ∀ i : Nat, i ∈ vs → plainC ρ1[i]? = true := fun i hi => List.all_eq_true.mp n i hi
  have hin : ∀ {i : Nat} {c : C}, i ∈ vs → (restR ρ1 ρ2 vs)[i]? = some (some c) → ∃ d, c = .dat d ∧ ρ1[i]? = some (some (.dat d)) := fun {i c} hi h => by
    have hlt : i < ρ2.length := by
      have := (List.getElem?_eq_some_iff.mp h).1
      rw [restR_length] at this; exact this
    rw [restR_in hlt hi] at h
    have q := nh i hi
    cases e : ρ1[i]? with
    | none => rw [e] at q; cases q
    | some x =>
      rw [e] at h q
      cases x with
      | none => cases h
      | some c' =>
        cases c' with
        | dat d => cases h; exact ⟨d, rfl, rfl⟩
        | own l => cases q
        | ref l => cases q
        | dct l => cases q
        | raw l => cases q
        | rel k l => cases q
  have hout : ∀ {i : Nat} {l : List D}, Hd (restR ρ1 ρ2 vs) i l → i ∉ vs ∧ Hd ρ2 i l := fun {i l} h => by
    by_cases m : i ∈ vs
    · rcases h with h | h
      · obtain ⟨d, e, _⟩ := hin m h; cases e
      · obtain ⟨d, e, _⟩ := hin m h; cases e
    · refine ⟨m, ?_⟩
      rcases h with h | h
      · rw [restR_out m] at h; exact .inl h
      · rw [restR_out m] at h; exact .inr h
  exact {
    sub := E.sub
    nt := E.nt
    sz := E.sz
    j := E.j
    keep := E.keep
    there := E.there
    gsub := E.gsub
    gnew := E.gnew
    len := by rw [restR_length]; exact hl
    dat := fun i d h => by
      by_cases m : i ∈ vs
      · obtain ⟨d', e, h1⟩ := hin m h
        cases e
        obtain ⟨v, k1, k2⟩ := E1.dat i d h1
        exact ⟨v, k1, Dp.up le k2⟩
      · rw [restR_out m] at h
        obtain ⟨v, k1, k2⟩ := E.dat i d h
        rw [wipe_out m] at k1
        exact ⟨v, k1, k2⟩
    dct := fun i ks h => by
      by_cases m : i ∈ vs
      · obtain ⟨d', e, h1⟩ := hin m h
        cases e
      · rw [restR_out m] at h
        obtain ⟨a, k1, k2⟩ := E.dct i ks h
        rw [wipe_out m] at k1
        exact ⟨a, k1, k2⟩
    raw := fun i v h => by
      by_cases m : i ∈ vs
      · obtain ⟨d', e, h1⟩ := hin m h
        cases e
      · rw [restR_out m] at h
        have k1 := E.raw i v h
        rw [wipe_out m] at k1
        exact k1
    rel := fun i k d h => by
      by_cases m : i ∈ vs
      · obtain ⟨d', e, h1⟩ := hin m h
        cases e
      · rw [restR_out m] at h
        obtain ⟨v, k1, k2⟩ := E.rel i k d h
        rw [wipe_out m] at k1
        exact ⟨v, k1, k2⟩
    dnq := fun i j ks ks' h1 h2 => by
      have nx : ∀ {i : Nat} {ks : List (List Int)}, (restR ρ1 ρ2 vs)[i]? = some (some (C.dct ks)) → i ∉ vs := fun {i ks} h m => by
        obtain ⟨d', e, _⟩ := hin m h
        cases e
      have n1 := nx h1
      have n2 := nx h2
      rw [restR_out n1] at h1
      rw [restR_out n2] at h2
      exact E.dnq i j ks ks' h1 h2
    held := fun i l h => by
      obtain ⟨m, h'⟩ := hout h
      obtain ⟨a, us, k1, r⟩ := E.held i l h'
      rw [wipe_out m] at k1
      exact ⟨a, us, k1, r⟩
    ref := fun i l h => by
      obtain ⟨m, _⟩ := hout (.inr h)
      rw [restR_out m] at h
      obtain ⟨k1, k2⟩ := E.ref i l h
      rw [wipe_out m] at k1
      exact ⟨k1, k2⟩
    sep := fun i j l m hij h1 h2 => by
      obtain ⟨m1, h1'⟩ := hout h1
      obtain ⟨m2, h2'⟩ := hout h2
      have := E.sep i j l m hij h1' h2'
      rw [wipe_out m1, wipe_out m2] at this
      exact this
    isref := fun i l h => by
      obtain ⟨l', h'⟩ := E.isref i l h
      by_cases m : i ∈ vs
      · exact absurd h' (cl i m _)
      · exact ⟨l', by rw [restR_out m]; exact h'⟩ }
theorem wipeR_clean {ρ : Rho} : ∀ {vs : List Nat} {i : Nat}, i ∈ vs → ∀ c, (wipeR ρ vs)[i]? ≠ some (some c)
  | [], _, h, _ => by cases h
  | v :: vs, i, h, c => fun z => by
    unfold wipeR at z
    rcases get_set z with ⟨_, z⟩ | ⟨q, z⟩
    · cases z
    · rcases List.mem_cons.mp h with e | e
      · exact q e.symm
      · exact wipeR_clean e c z
theorem EnvOk.noref {i : Nat} {l : List D} {S : Sit} (E : EnvOk B S ρ σ H G) (h : ρ[i]? = some (some (.ref l))) : ∃ l0, S.ρ0[i]? = some (some (.ref l0)) := (E.ref i l h).2
/-- the comprehension's reading, by data -/
theorem lc_read {t : Tg} {vs : List Nat} {fi : Rho → O (List D)} {fc fe : Rho → O D} {Q : VK} (ht : ∀ i ∈ t.slots, i ∈ vs) (h : tEo B Wx (sLc t vs fi fc fe) σ H Q) (Wy Wz : WX) :
    tLc (tIt B Wx fi) (tTg B t) (tEt B Wy fc) (tEv B Wz fe) vs σ H Q := by
  obtain ⟨S, ρ, G, E, P⟩ := h
  refine ⟨S, ρ, G, E, P.bind.imp fun xs ρ1 H1 G1 E1 le1 P1 hxs J FJ D hD => ?_⟩
  split at P1
  · rename_i nh
    cases eg : lcGo t vs fc fe xs (wipeR ρ1 vs) with
    | no => rw [eg] at P1; exact False.elim P1
    | ex e ρ2 => rw [eg] at P1; exact False.elim P1
    | ok ys ρ2 =>
      rw [eg] at P1
      have nr1 : ∀ i : Nat, i ∈ vs → ∀ l, ρ1[i]? ≠ some (some (.ref l)) := fun i hi l z => by
        have q := List.all_eq_true.mp nh i hi
        rw [z] at q; cases q
      obtain ⟨F1, F2, F3, F4, F5⟩ := E1.newl (vs := []) hD
      refine ⟨fun i m H => m = xs.length - i ∧ i ≤ xs.length ∧ ∃ ρi Gi acc accd rest, EnvOk B S ρi (L2.wipe σ vs) H Gi ∧ H D = some (.lst acc) ∧ Gi D = none ∧ Loose ρi (L2.wipe σ vs) D ∧ Le G1 Gi ∧ DpAll B.K Gi acc accd ∧
        lcGo t vs fc fe (xs.drop i) ρi = .ok rest ρ2 ∧ accd ++ rest = ys ∧ acc.length ≤ i ∧ (∀ j : Nat, j ∈ vs → ∀ c, ρi[j]? ≠ some (some c)), ⟨xs.length, by simp, Nat.zero_le _, wipeR ρ1 vs, G1, [], [], ys, F1.wipe nr1, F2, F3, ?_, Le.refl, .nil, eg, rfl, Nat.le_refl _, fun j hj => wipeR_clean hj⟩, ?_⟩
      · exact fun i l h z => by
          obtain ⟨a, us, k1, k2, _⟩ := (F1.wipe nr1).held i l h
          rw [z] at k1; cases k1
          obtain ⟨h1, h2⟩ := wipe_some (σ := σ) (i := i) (x := .ref D) (vs := vs) z
          have h' : Hd ρ1 i l := by
            rcases h with h | h
            · rw [wipeR_out h2] at h; exact .inl h
            · rw [wipeR_out h2] at h; exact .inr h
          exact F5 i l h' h1
      · rintro i m Hi ⟨rfl, hi, ρi, Gi, acc, accd, rest, Ei, hDi, gDi, loi, lei, dpi, gi, ei, li, cli⟩
        obtain ⟨fgo, fstop⟩ := FJ S ρi (L2.wipe σ vs) Hi Gi Ei lei
        by_cases hlt : i < xs.length
        · refine .inr ?_
          obtain ⟨x, hx⟩ : ∃ x, xs[i]? = some x := ⟨xs[i], by simp [hlt]⟩
          have hdrop : xs.drop i = x :: xs.drop (i + 1) := by
            rw [List.drop_eq_getElem_cons hlt]
            have : xs[i] = x := by
              have := List.getElem?_eq_getElem hlt
              rw [this] at hx; exact Option.some.inj hx
            rw [this]
          refine ⟨(fgo i x hx).1, ?_⟩
          let S' := Rf.reb ρi (L2.wipe σ vs) Hi Gi
          have Er := Ei.reb
          obtain ⟨rgo, _⟩ := FJ S' ρi (L2.wipe σ vs) Hi Gi Er lei
          have nt : ∀ ps, (HO.lst acc) ≠ .tbl ps := fun ps z => by cases z
          rw [hdrop] at gi
          unfold lcGo at gi
          refine ⟨fun H' => (xs.length - (i + 1)) = xs.length - (i + 1) ∧ i + 1 ≤ xs.length ∧ ∃ ρi Gi acc accd rest, EnvOk B S ρi (L2.wipe σ vs) H' Gi ∧ H' D = some (.lst acc) ∧ Gi D = none ∧ Loose ρi (L2.wipe σ vs) D ∧ Le G1 Gi ∧ DpAll B.K Gi acc accd ∧
            lcGo t vs fc fe (xs.drop (i + 1)) ρi = .ok rest ρ2 ∧ accd ++ rest = ys ∧ acc.length ≤ i + 1 ∧ (∀ j : Nat, j ∈ vs → ∀ c, ρi[j]? ≠ some (some c)), fun H' w => ⟨_, by omega, w⟩, fun xv H' hy => ?_⟩
          obtain ⟨G2, E2, le2, dp2⟩ := (rgo i x hx).2 xv H' hy
          cases eb : bindT t x ρi with
          | none => rw [eb] at gi; cases gi
          | some ρ3 =>
            rw [eb] at gi
            refine ⟨S', ρi, G2, x, ρ3, E2, dp2, eb, fun σ3 E3 off => ?_⟩
            have hw : L2.wipe σ3 vs = L2.wipe (L2.wipe σ vs) vs := wipe_ext off.1 fun j hj => off.2 j fun m => hj (ht j m)
            have hww : L2.wipe (L2.wipe σ vs) vs = L2.wipe σ vs := wipe_ext (wipe_length σ vs) fun j hj => wipe_out hj
            have hw : L2.wipe σ3 vs = L2.wipe σ vs := hw.trans hww
            refine ⟨hw, S', ρ3, G2, E3, ?_⟩
            -- what a turn comes to
            have back : ∀ ρ4 H4 G4, EnvOk B S' ρ4 σ3 H4 G4 → Le G2 G4 → EnvOk B S (wipeR ρ4 vs) (L2.wipe σ vs) H4 G4 ∧ H4 D = some (.lst acc) ∧ G4 D = none ∧ Loose (wipeR ρ4 vs) (L2.wipe σ vs) D ∧ Le G1 G4 ∧ DpAll B.K G4 acc accd := fun ρ4 H4 G4 E4 le4 => by
              obtain ⟨k1, k2⟩ := E4.reb_keep hDi nt gDi loi (Ei.nodct hDi)
              have lo4 := E4.reb_loose hDi loi (Ei.nodct hDi)
              have Eu := Ei.unreb E4
              have nr4 : ∀ i : Nat, i ∈ vs → ∀ l, ρ4[i]? ≠ some (some (.ref l)) := fun i hi l z => by
                obtain ⟨l0, h0⟩ := E4.noref z
                exact cli i hi _ h0
              have Ew := Eu.wipe nr4
              rw [hw] at Ew
              refine ⟨Ew, k1, k2, fun j l h z => ?_, lei.trans (le2.trans le4), DpAll.up (le2.trans le4) dpi⟩
              have z' := z
              rw [← hw] at z'
              obtain ⟨h1, h2⟩ := wipe_some z'
              have h' : Hd ρ4 j l := by
                rcases h with h | h
                · rw [wipeR_out h2] at h; exact .inl h
                · rw [wipeR_out h2] at h; exact .inr h
              exact lo4 j l h' h1
            dsimp only at gi
            cases ec : fc ρ3 with
            | no => rw [ec] at gi; cases gi
            | ex e ρ4 => rw [ec] at gi; cases gi
            | ok c ρ4 =>
              rw [ec] at gi
              intro H4 G4 E4 le4
              cases c with
              | bool b =>
                cases b with
                | false =>
                  refine ⟨false, rfl, ifF ?_⟩
                  obtain ⟨k1, k2, k3, k4, k5, k6⟩ := back ρ4 H4 G4 E4 le4
                  exact ⟨rfl, hlt, wipeR ρ4 vs, G4, acc, accd, rest, k1, k2, k3, k4, k5, k6, gi, ei, by omega, fun j hj => wipeR_clean hj⟩
                | true =>
                  refine ⟨true, rfl, ifT ⟨S', ρ4, G4, E4, ?_⟩⟩
                  dsimp only at gi
                  cases ee : fe ρ4 with
                  | no => rw [ee] at gi; cases gi
                  | ex e ρ5 => rw [ee] at gi; cases gi
                  | ok y ρ5 =>
                    rw [ee] at gi
                    intro H5 G5 E5 le5 v hv
                    dsimp only at gi
                    cases er : lcGo t vs fc fe (xs.drop (i + 1)) (wipeR ρ5 vs) with
                    | no => rw [er] at gi; cases gi
                    | ex e ρ6 => rw [er] at gi; cases gi
                    | ok zs ρ6 =>
                      rw [er] at gi
                      cases gi
                      obtain ⟨k1, k2, k3, k4, k5, k6⟩ := back ρ5 H5 G5 E5 (le4.trans le5)
                      have hz : acc.length < sizeLine := by omega
                      refine ⟨acc, k2, hz, rfl, hlt, wipeR ρ5 vs, G5, acc ++ [v], accd ++ [y], zs, k1.upl k2 k3 (S.wn D (E1.there D hD)) k4, upd_same, k3, k4, k5, k6.append (.cons hv .nil), er, by rw [← ei]; simp, by rw [List.length_append]; simp; omega, fun j hj => wipeR_clean hj⟩
              | _ => cases gi
        · have e : i = xs.length := by omega
          subst e
          refine .inl ⟨fstop, ?_⟩
          rw [List.drop_length] at gi
          unfold lcGo at gi
          cases gi
          rw [List.append_nil] at ei
          subst ei
          have Ef := E1.rest nh Ei lei cli
          refine P1 Hi Gi Ef lei D acc hDi gDi (S.wn D (E1.there D hD)) (fun j l h z => ?_) (by omega) dpi
          by_cases m : j ∈ vs
          · have hlt : j < ρ2.length := by
              rcases h with h | h
              · have := (List.getElem?_eq_some_iff.mp h).1; rw [restR_length] at this; exact this
              · have := (List.getElem?_eq_some_iff.mp h).1; rw [restR_length] at this; exact this
            have q := List.all_eq_true.mp nh j m
            rcases h with h | h
            · rw [restR_in hlt m] at h
              cases e : ρ1[j]? with
              | none => rw [e] at q; cases q
              | some x =>
                rw [e] at h q
                cases x with
                | none => cases h
                | some c => cases c with
                  | dat d => cases h
                  | own l => cases q
                  | ref l => cases q
                  | dct l => cases q
                  | raw l => cases q
                  | rel k l => cases q
            · rw [restR_in hlt m] at h
              cases e : ρ1[j]? with
              | none => rw [e] at q; cases q
              | some x =>
                rw [e] at h q
                cases x with
                | none => cases h
                | some c => cases c with
                  | dat d => cases h
                  | own l => cases q
                  | ref l => cases q
                  | dct l => cases q
                  | raw l => cases q
                  | rel k l => cases q
          · have h' : Hd ρ2 j l := by
              rcases h with h | h
              · rw [restR_out m] at h; exact .inl h
              · rw [restR_out m] at h; exact .inr h
            exact loi j l h' (by rw [wipe_out m]; exact z)
  · exact False.elim P1
end
end Rf

set_option maxRecDepth 100000
set_option maxHeartbeats 4000000
namespace Rf
open PySem PySem.Spec PyProof.Rows L2
/-! ### builtins -/
def rC (B : Bs) (g : List D → Option D) : List V → Hp → VK → Prop := fun vs H Q => ∃ S ρ σ G ds z, EnvOk B S ρ σ H G ∧ DpAll B.K G vs ds ∧ g ds = some z ∧ ∀ H' G', EnvOk B S ρ σ H' G' → Le G G' → ∀ u, Dp B.K G' u z → Q u H'
def sCall (g : List D → Option D) (fa : Rho → O (List D)) : Rho → O D := fun ρ => (fa ρ).bind fun ds ρ1 => lift (g ds) ρ1
section
variable {X : Cx} {B : Bs} {Wx : WX}
theorem tCB_of {g : List D → Option D} {fa : Rho → O (List D)} {σ : St} {H : Hp} {Q : VK} (h : tEv B Wx (sCall g fa) σ H Q) : tCB (rC B g) (tEs B Wx fa) σ H Q := by
  obtain ⟨S, ρ, G, E, P⟩ := h
  refine ⟨S, ρ, G, E, P.bind.imp fun ds ρ1 H1 G1 E1 le1 q1 vs hvs => ?_⟩
  cases e : g ds with
  | none => rw [e] at q1; exact False.elim q1
  | some z =>
    rw [e] at q1
    exact ⟨S, ρ1, σ, G1, ds, z, E1, hvs, e, fun H' G' E' le u hu => q1 H' G' E' le u hu⟩
theorem r_callB {id : String} {x : Str} {g : List D → Option D} {e : Expr} {es : List Expr} {p pos : Pos} {fa : Rho → O (List D)} (hc : CallR X (.builtin id) (rC B g)) (hg : Gl X x) (hm : X.mg x = none) (hv : bootBuiltins x = some (.builtin id)) (ha : PA X (e :: es) (tEs B Wx fa)) (hn : x ≠ "__name__") (hdb : (x == ("__debug__" : Str)) = false)
    (he : starEach (e :: es) X.env = (false, eval e X.env) :: starEach es X.env) (hpl : (backTo pos (starEach es X.env)).any (·.1) = false) : PE X (.Call (.Name x p) (e :: es) [] pos) (tEv B Wx (sCall g fa)) :=
  (pe_callB hc hg hm hv ha hn hdb he hpl).imp' fun σ H Q h => tCB_of h
theorem r_callTy {id : String} {x : Str} {g : List D → Option D} {e : Expr} {es : List Expr} {p pos : Pos} {fa : Rho → O (List D)} (hc : CallR X (.type id) (rC B g)) (hg : Gl X x) (hm : X.mg x = none) (hv : bootBuiltins x = some (.type id)) (ha : PA X (e :: es) (tEs B Wx fa)) (hn : x ≠ "__name__") (hdb : (x == ("__debug__" : Str)) = false)
    (he : starEach (e :: es) X.env = (false, eval e X.env) :: starEach es X.env) (hpl : (backTo pos (starEach es X.env)).any (·.1) = false) : PE X (.Call (.Name x p) (e :: es) [] pos) (tEv B Wx (sCall g fa)) :=
  (pe_callTy hc hg hm hv ha hn hdb he hpl).imp' fun σ H Q h => tCB_of h
theorem all1 {K : PySem.W.Frag} {G : Hp} {vs : List V} {d : D} (h : DpAll K G vs [d]) : ∃ v, vs = [v] ∧ Dp K G v d := by
  cases h with
  | cons a r => cases r; exact ⟨_, rfl, a⟩
theorem all2 {K : PySem.W.Frag} {G : Hp} {vs : List V} {d e : D} (h : DpAll K G vs [d, e]) : ∃ v w, vs = [v, w] ∧ Dp K G v d ∧ Dp K G w e := by
  cases h with
  | cons a r =>
    obtain ⟨w, rfl, b⟩ := all1 r
    exact ⟨_, _, rfl, a, b⟩
def dLen : List D → Option D
  | [.list xs] => some (.int xs.length)
  | [.tuple xs] => some (.int xs.length)
  | [.str z] => if z.length ≤ 16777216 then some (.int z.length) else none
  | _ => none
theorem c_len (hK : X.K = B.K) : CallR X (.builtin "len") (rC B dLen) := by
  intro pins s σ H vs us Q I r h
  obtain ⟨S, ρ, σ', G, ds, z, E, hd, e, q⟩ := h
  unfold dLen at e
  split at e
  · cases e
    obtain ⟨v, rfl, hv⟩ := all1 hd
    obtain ⟨a, xs, rfl, s1, a1⟩ := dlst hv
    refine call_len pins s σ H _ us Q I r ⟨_, xs.length, rfl, .inl ⟨xs, hK ▸ SqL.le E.sub s1, rfl⟩, ?_⟩
    rw [a1.length]; exact q H G E Le.refl _ (.int _)
  · cases e
    obtain ⟨v, rfl, hv⟩ := all1 hd
    obtain ⟨a, xs, rfl, s1, a1⟩ := dtup hv
    refine call_len pins s σ H _ us Q I r ⟨_, xs.length, rfl, .inr ⟨xs, hK ▸ SqT.le E.sub s1, rfl⟩, ?_⟩
    rw [a1.length]; exact q H G E Le.refl _ (.int _)
  · split at e
    · rename_i hz; cases e
      obtain ⟨v, rfl, hv⟩ := all1 hd
      cases dstr hv
      exact call_len pins s σ H _ us Q I r ⟨_, _, rfl, ⟨by rw [line_eq]; exact hz, rfl⟩, q H G E Le.refl _ (.int _)⟩
    · cases e
  · cases e
def dSum : List D → Option D
  | [.list xs] => (intsOf xs).map fun ns => .int ns.sum
  | _ => none
theorem c_sum (hK : X.K = B.K) (hc : X.calm = true) : CallR X (.builtin "sum") (rC B dSum) := by
  intro pins s σ H vs us Q I r h
  obtain ⟨S, ρ, σ', G, ds, z, E, hd, e, q⟩ := h
  unfold dSum at e
  split at e
  · obtain ⟨v, rfl, hv⟩ := all1 hd
    obtain ⟨a, xs, rfl, s1, a1⟩ := dlst hv
    rename_i ys
    cases e1 : intsOf ys with
    | none => rw [e1] at e; cases e
    | some ns =>
      rw [e1] at e; cases e
      rw [intsOf_eq e1] at a1
      rw [a1.ints] at s1
      exact cr_sum hc pins s σ H _ us Q I r ⟨a, ns, rfl, hK ▸ SqL.le E.sub s1, q H G E Le.refl _ (.int _)⟩
  · cases e
def dAbs : List D → Option D
  | [.int i] => some (.int (if i < 0 then -i else i))
  | _ => none
theorem c_abs : CallR X (.builtin "abs") (rC B dAbs) := by
  intro pins s σ H vs us Q I r h
  obtain ⟨S, ρ, σ', G, ds, z, E, hd, e, q⟩ := h
  unfold dAbs at e
  split at e
  · cases e
    obtain ⟨v, rfl, hv⟩ := all1 hd
    cases dint hv
    exact call_abs pins s σ H _ us Q I r ⟨_, rfl, q H G E Le.refl _ (.int _)⟩
  · cases e
def dMax : List D → Option D
  | [.int i, .int j] => some (.int (if j > i then j else i))
  | _ => none
def dMin : List D → Option D
  | [.int i, .int j] => some (.int (if j < i then j else i))
  | _ => none
theorem c_max (hc : X.calm = true) : CallR X (.builtin "max") (rC B dMax) := by
  intro pins s σ H vs us Q I r h
  obtain ⟨S, ρ, σ', G, ds, z, E, hd, e, q⟩ := h
  unfold dMax at e
  split at e
  · cases e
    obtain ⟨v, w, rfl, hv, hw⟩ := all2 hd
    cases dint hv; cases dint hw
    exact call_max2 hc pins s σ H _ us Q I r ⟨_, _, rfl, q H G E Le.refl _ (.int _)⟩
  · cases e
theorem c_min (hc : X.calm = true) : CallR X (.builtin "min") (rC B dMin) := by
  intro pins s σ H vs us Q I r h
  obtain ⟨S, ρ, σ', G, ds, z, E, hd, e, q⟩ := h
  unfold dMin at e
  split at e
  · cases e
    obtain ⟨v, w, rfl, hv, hw⟩ := all2 hd
    cases dint hv; cases dint hw
    exact call_min2 hc pins s σ H _ us Q I r ⟨_, _, rfl, q H G E Le.refl _ (.int _)⟩
  · cases e
def dInt : List D → Option D
  | [.int i] => some (.int i)
  | [.bool k] => some (.int (if k then 1 else 0))
  | _ => none
theorem c_int : CallR X (.type "int") (rC B dInt) := by
  intro pins s σ H vs us Q I r h
  obtain ⟨S, ρ, σ', G, ds, z, E, hd, e, q⟩ := h
  unfold dInt at e
  split at e
  · cases e
    obtain ⟨v, rfl, hv⟩ := all1 hd
    cases dint hv
    exact call_int1 pins s σ H _ us Q I r (.inl ⟨_, rfl, q H G E Le.refl _ (.int _)⟩)
  · cases e
    obtain ⟨v, rfl, hv⟩ := all1 hd
    cases dbl hv
    exact call_int1 pins s σ H _ us Q I r (.inr ⟨_, rfl, q H G E Le.refl _ (.int _)⟩)
  · cases e
def dBool : List D → Option D
  | [.int i] => some (.bool (i != 0))
  | [.bool k] => some (.bool k)
  | _ => none
theorem c_bool : CallR X (.type "bool") (rC B dBool) := by
  intro pins s σ H vs us Q I r h
  obtain ⟨S, ρ, σ', G, ds, z, E, hd, e, q⟩ := h
  unfold dBool at e
  split at e
  · cases e
    obtain ⟨v, rfl, hv⟩ := all1 hd
    cases dint hv
    exact call_bool1 pins s σ H _ us Q I r (.inl ⟨_, rfl, q H G E Le.refl _ (.bl _)⟩)
  · cases e
    obtain ⟨v, rfl, hv⟩ := all1 hd
    cases dbl hv
    exact call_bool1 pins s σ H _ us Q I r (.inr ⟨_, rfl, q H G E Le.refl _ (.bl _)⟩)
  · cases e
def dStr : List D → Option D
  | [.int i] => if i.natAbs.log2 < 1920 then some (.str (toString i)) else none
  | _ => none
theorem c_str : CallR X (.type "str") (rC B dStr) := by
  intro pins s σ H vs us Q I r h
  obtain ⟨S, ρ, σ', G, ds, z, E, hd, e, q⟩ := h
  unfold dStr at e
  split at e
  · split at e
    · rename_i hz; cases e
      obtain ⟨v, rfl, hv⟩ := all1 hd
      cases dint hv
      exact call_str_int pins s σ H _ us Q I r ⟨_, rfl, hz, q H G E Le.refl _ (.str _)⟩
    · cases e
  · cases e
def dTuple : List D → Option D
  | [.list xs] => some (.tuple xs)
  | [.tuple xs] => some (.tuple xs)
  | _ => none
theorem c_tuple (hK : X.K = B.K) : CallR X (.type "tuple") (rC B dTuple) := by
  intro pins s σ H vs us Q I r h
  obtain ⟨S, ρ, σ', G, ds, z, E, hd, e, q⟩ := h
  unfold dTuple at e
  split at e
  · cases e
    obtain ⟨v, rfl, hv⟩ := all1 hd
    obtain ⟨a, xs, rfl, s1, a1⟩ := dlst hv
    refine call_tuple_of pins s σ H _ us Q I r ⟨a, xs, rfl, .inl ⟨hK ▸ SqL.le E.sub s1, fun p hp => ?_⟩⟩
    exact q _ (upd G p (.tup xs)) (E.new (o := .tup xs) hp (fun _ => HO.noConfusion) (szl E s1)) (Le.upd (E.gnone hp)) _ (.tup (SqT.of upd_same) (DpAll.up (Le.upd (E.gnone hp)) a1))
  · cases e
    obtain ⟨v, rfl, hv⟩ := all1 hd
    have hv' := hv
    obtain ⟨a, xs, rfl, s1, a1⟩ := dtup hv
    exact call_tuple_of pins s σ H _ us Q I r ⟨a, xs, rfl, .inr ⟨hK ▸ SqT.le E.sub s1, q H G E Le.refl _ hv'⟩⟩
  · cases e
/-- list(x): a new list -/
def dListOf : List D → Option (List D)
  | [.list xs] => some xs
  | [.tuple xs] => some xs
  | _ => none
def sListOf (fa : Rho → O (List D)) : Rho → O (List D) := fun ρ => (fa ρ).bind fun ds ρ1 => lift (dListOf ds) ρ1
theorem r_listOf {e : Expr} {p pos : Pos} {fa : Rho → O (List D)} (hK : X.K = B.K) (hg : Gl X "list") (hm : X.mg "list" = none) (ha : PA X [e] (tEs B Wx fa)) (he : starEach [e] X.env = (false, eval e X.env) :: starEach [] X.env) : PE X (.Call (.Name "list" p) [e] [] pos) (tEo B Wx (sListOf fa)) :=
  (pe_callTy call_list_of hg hm (by decide +kernel) ha (by decide) (by decide) he (by rfl)).imp' fun σ H Q ⟨S, ρ, G, E, P⟩ => by
    refine ⟨S, ρ, G, E, P.bind.imp fun ds ρ1 H1 G1 E1 le1 q1 vs hvs => ?_⟩
    unfold dListOf at q1
    split at q1
    · obtain ⟨v, rfl, hv⟩ := all1 hvs
      obtain ⟨a, xs, rfl, s1, a1⟩ := dlst hv
      refine ⟨a, xs, rfl, .inl (hK ▸ SqL.le E1.sub s1), fun p hp => ?_⟩
      obtain ⟨e1, e2, e3, e4, e5⟩ := E1.newl (vs := xs) hp
      exact q1 _ G1 e1 Le.refl p xs e2 e3 e4 e5 (szl E1 s1) a1
    · obtain ⟨v, rfl, hv⟩ := all1 hvs
      obtain ⟨a, xs, rfl, s1, a1⟩ := dtup hv
      refine ⟨a, xs, rfl, .inr (hK ▸ SqT.le E1.sub s1), fun p hp => ?_⟩
      obtain ⟨e1, e2, e3, e4, e5⟩ := E1.newl (vs := xs) hp
      exact q1 _ G1 e1 Le.refl p xs e2 e3 e4 e5 (szt E1 s1) a1
    · exact False.elim q1
/-- [x, ..] * n -/
def sRep (fa : Rho → O (List D)) (fb : Rho → O D) : Rho → O (List D) := fun ρ => (fa ρ).bind fun l ρ1 => if l.length ≤ 1000 then (fb ρ1).bind fun y ρ2 => match y with
  | .int k => if -(2 ^ 63) ≤ k ∧ k < 2 ^ 63 ∧ l.length * k.toNat ≤ 16777216 then .ok (List.replicate k.toNat l).flatten ρ2 else .no
  | _ => .no
  else .no
theorem r_rep {es : List Expr} {b : Expr} {p pos : Pos} {fa : Rho → O (List D)} {fb : Rho → O D} (ha : PA X es (tEs B Wx fa)) (hb : PE X b (tEv B Wx fb)) : PE X (.BinOp (.List es p) .Mult b pos) (tEo B Wx (sRep fa fb)) :=
  (pe_op op_rep (pe_lst ha) hb).imp' fun σ H Q ⟨S, ρ, G, E, P⟩ => by
    refine ⟨S, ρ, G, E, P.bind.imp fun l ρ1 H1 G1 E1 le1 q vs hvs => ?_⟩
    split at q
    · rename_i hl
      have hz : vs.length ≤ sizeLine := by rw [hvs.length]; exact le_line hl
      refine ⟨hz, fun p hp => ?_⟩
      have E2 := E1.new (o := .lst vs) hp (fun _ => HO.noConfusion) hz
      have le2 : Le G1 (upd G1 p (.lst vs)) := Le.upd (E1.gnone hp)
      refine ⟨S, ρ1, _, E2, (Post.le q.bind le2).imp fun y ρ2 H3 G3 E3 le3 q3 w hw => ?_⟩
      split at q3
      · rename_i k
        split at q3
        · rename_i hk
          cases dint hw
          have hp3 : H3 p = some (.lst vs) := E3.sub p _ (le3 p _ upd_same)
          refine ⟨p, k, vs, rfl, rfl, hp3, hk.1, hk.2.1, by rw [hvs.length, line_eq]; exact hk.2.2, fun r hr => ?_⟩
          obtain ⟨e1, e2, e3, e4, e5⟩ := E3.newl (vs := (List.replicate k.toNat vs).flatten) hr
          exact q3 _ G3 e1 Le.refl r _ e2 e3 e4 e5 (by rw [PyProof.Rows.lm_len_rep_flat, line_eq, hvs.length, Nat.mul_comm]; exact hk.2.2) ((DpAll.up (le2.trans le3) hvs).rep _)
        · exact False.elim q3
      · exact False.elim q3
    · exact False.elim q
/-- isinstance(x, T), T a built-in type -/
def tyName : D → String
  | .none => "NoneType" | .bool _ => "bool" | .int _ => "int" | .str _ => "str" | .list _ => "list" | .tuple _ => "tuple" | .dict _ => "dict"
def isTy (T : String) (d : D) : Bool := tyName d == T || (T == "int" && tyName d == "bool")
def tyKnown (T : String) : Bool := ["bool", "int", "str", "list", "tuple"].contains T
theorem kit_is (K : PySem.W.Frag) {T : String} (h : tyKnown T = true) (d : D) : PySem.W.kitOne K (.type (tyName d)) (.type T) = some (isTy T d) := by
  have hT : T = "bool" ∨ T = "int" ∨ T = "str" ∨ T = "list" ∨ T = "tuple" := by
    unfold tyKnown at h
    simpa using h
  refine kit_ty ?_
  have key : ∀ n ∈ ["NoneType", "bool", "int", "str", "list", "tuple", "dict"], ∀ T ∈ ["bool", "int", "str", "list", "tuple"], kitB n T = some (n == T || (T == "int" && n == "bool")) := by decide +kernel
  unfold isTy
  refine key (tyName d) ?_ T ?_
  · cases d <;> simp [tyName]
  · rcases hT with h | h | h | h | h <;> simp [h]
theorem tyx_of {K : PySem.W.Frag} {H : Hp} {v : V} {d : D} (h : Dp K H v d) : TyX K H v (.type (tyName d)) := by
  cases h with
  | non => exact .base .non
  | bl b => exact .base (.bl b)
  | int i => exact .base (.int i)
  | str x => exact .base (.str x)
  | lst s a =>
    rcases s with (h | ⟨o, h⟩) | ⟨o, its, n, h1, h2, _⟩
    · exact .base (.lst h)
    · exact .base (.frz h)
    · exact .kList h1 h2
  | tup s a =>
    rcases s with (h | ⟨o, h⟩) | ⟨o, its, n, h1, h2, _⟩
    · exact .base (.tup h)
    · exact .fTuple h
    · exact .kTuple h1 h2
def sIsi (fa : Rho → O D) (T : String) : Rho → O D := fun ρ => (fa ρ).bind fun d ρ1 => .ok (.bool (isTy T d)) ρ1
theorem r_isi {e : Expr} {T : String} {t : Str} {p q pos : Pos} {fa : Rho → O D} (hK : X.K = B.K) (hT : tyKnown T = true) (hg : Gl X "isinstance") (hm : X.mg "isinstance" = none) (hgt : Gl X t) (hmt : X.mg t = none) (hvt : bootBuiltins t = some (.type T)) (hnt : t ≠ "__name__") (hdt : (t == ("__debug__" : Str)) = false)
    (he : PE X e (tEv B Wx fa)) (hs : starEach [e, .Name t q] X.env = (false, eval e X.env) :: starEach [.Name t q] X.env) : PE X (.Call (.Name "isinstance" p) [e, .Name t q] [] pos) (tEv B Wx (sIsi fa T)) :=
  (pe_callB call_isi hg hm (by decide +kernel) (pa_cons he (pa_cons (pe_bltn (v := .ty T) hgt hmt hvt rfl hnt hdt) pa_nil (by rfl)) hs) (by decide) (by decide) hs (by rfl)).imp' fun σ H Q ⟨S, ρ, G, E, P⟩ => by
    refine ⟨S, ρ, G, E, P.bind.imp fun d ρ1 H1 G1 E1 le1 q1 v hv => ?_⟩
    exact ⟨v, .ty T, _, _, isTy T d, rfl, .ty T, hK ▸ tyx_of (Dp.up E1.sub hv), hK ▸ kit_is B.K hT d, q1 H1 G1 E1 Le.refl _ (.bl _)⟩
end
end Rf

set_option maxRecDepth 100000
set_option maxHeartbeats 4000000
namespace Rf
open PySem PySem.Spec PyProof.Rows L2
/-! ### defs of the program: promises and calls -/
def argsR (cs : List C) : Rho := cs.map some
def argsS (vs : List V) : St := vs.map some
def spOf (B : Bs) (f : FSem) : Sp := fun vs H Q E => ∃ G cs, (∀ (i : Nat) (l : List D), cs[i]? ≠ some (C.own l)) ∧ (∀ (i : Nat) (ks : List (List Int)), cs[i]? ≠ some (C.dct ks)) ∧ EnvOk B (Rf.reb (argsR cs) (argsS vs) H G) (argsR cs) (argsS vs) H G ∧ match f cs with
  | .ret d cs' => ∀ v H' G', EnvOk B (Rf.reb (argsR cs) (argsS vs) H G) (argsR cs') (argsS vs) H' G' → Dp B.K G' v d → Q v H'
  | .retO l cs' => ∀ p us H' G', EnvOk B (Rf.reb (argsR cs) (argsS vs) H G) (argsR cs') (argsS vs) H' G' → H' p = some (.lst us) → G' p = none → H p = none → us.length ≤ sizeLine → DpAll B.K G' us l → Q (.ref p) H'
  | .retK ks cs' => ∀ a H' G', EnvOk B (Rf.reb (argsR cs) (argsS vs) H G) (argsR cs') (argsS vs) H' G' → H' a = some (dkOf ks) → G' a = none → H a = none → Q (.ref a) H'
  | .retV k d cs' => ∀ v H' G', EnvOk B (Rf.reb (argsR cs) (argsS vs) H G) (argsR cs') (argsS vs) H' G' → B.RV k d G' v → Q v H'
  | .exc e cs' => ∀ cls a H' G', EnvOk B (Rf.reb (argsR cs) (argsS vs) H G) (argsR cs') (argsS vs) H' G' → B.EX e cls a H' → E cls a H'
  | .no => False
/-- a def of the program keeps what f says -/
structure FnGood (B : Bs) (P : Program) (w : World) (mg : Str → Option Value) (base : Heap) (lv : Nat) (x : Str) (n : Nat) (f : FSem) : Prop where
  ex : ∃ fa fd ps, FnOk P w B.K mg base (L2N.CX P w) lv fa fd ps (spOf B f) ∧ mg x = some (.ref fa) ∧ PySem.W.keepIn B.K (.ref fa) = true ∧ Binds B.K fd ps [] ∧ ps.length = n
theorem FnGood.mono {B : Bs} {P : Program} {w : World} {mg : Str → Option Value} {base : Heap} {j k : Nat} {x : Str} {n : Nat} {f : FSem} (F : FnGood B P w mg base j x n f) (h : j ≤ k) : FnGood B P w mg base k x n f :=
  let ⟨fa, fd, ps, h1, h2, h3, h4, h5⟩ := F.ex
  ⟨fa, fd, ps, h1.mono h, h2, h3, h4, h5⟩
section
variable {X : Cx} {B : Bs} {Wx : WX}
/-- into a def -/
theorem EnvOk.enter {S : Sit} {ρ : Rho} {σ : St} {H G : Hp} (E : EnvOk B S ρ σ H G) {cs : List C} {vs : List V} (hl : cs.length = vs.length) (hd : ∀ (i : Nat) d, cs[i]? = some (C.dat d) → ∃ v, vs[i]? = some v ∧ Dp B.K G v d)
    (ho : ∀ (i : Nat) l, cs[i]? ≠ some (C.own l)) (hk : ∀ (i : Nat) ks, cs[i]? ≠ some (C.dct ks)) (hw : ∀ (i : Nat) v, cs[i]? = some (C.raw v) → vs[i]? = some v) (hq : ∀ (i k : Nat) d, cs[i]? = some (C.rel k d) → ∃ v, vs[i]? = some v ∧ B.RV k d G v) (hr : ∀ (i : Nat) l, cs[i]? = some (C.ref l) → ∃ j a, vs[i]? = some (.ref a) ∧ Hd ρ j l ∧ σ[j]? = some (some (.ref a))) (one : ∀ (i j : Nat) l m, cs[i]? = some (C.ref l) → cs[j]? = some (C.ref m) → i = j) :
    EnvOk B (Rf.reb (argsR cs) (argsS vs) H G) (argsR cs) (argsS vs) H G := by
  have rget : ∀ (i : Nat) c, (argsR cs)[i]? = some (some c) → cs[i]? = some c := fun i c h => by
    unfold argsR at h
    rw [List.getElem?_map] at h
    cases e : cs[i]? with
    | none => rw [e] at h; cases h
    | some c' => rw [e] at h; cases h; rfl
  have sget : ∀ (i : Nat) v, vs[i]? = some v → (argsS vs)[i]? = some (some v) := fun i v h => by
    unfold argsS
    rw [List.getElem?_map, h]; rfl
  have hh : ∀ (i : Nat) l, Hd (argsR cs) i l → cs[i]? = some (C.ref l) := fun i l h => by
    rcases h with h | h
    · exact absurd (rget i _ h) (ho i l)
    · exact rget i _ h
  exact {
    sub := E.sub
    nt := E.nt
    sz := E.sz
    j := E.j
    keep := fun b o e _ _ => e
    there := fun b e => e
    gsub := fun b o e => e
    gnew := fun b o e => .inl e
    len := by unfold argsR argsS; rw [List.length_map, List.length_map]; exact hl
    dat := fun i d h => let ⟨v, h1, h2⟩ := hd i d (rget i _ h); ⟨v, sget i v h1, h2⟩
    dct := fun i ks h => absurd (rget i _ h) (hk i ks)
    raw := fun i v h => sget i v (hw i v (rget i _ h))
    rel := fun i k d h => let ⟨v, h1, h2⟩ := hq i k d (rget i _ h); ⟨v, sget i v h1, h2⟩
    dnq := fun i j ks ks' h _ => absurd (rget i _ h) (hk i ks)
    held := fun i l h => by
      obtain ⟨j, a, h1, h2, h3⟩ := hr i l (hh i l h)
      obtain ⟨a', us, k1, k2, k3, k4, k5, k6⟩ := E.held j l h2
      rw [h3] at k1; cases k1
      exact ⟨a, us, sget i _ h1, k2, k3, k4, .inr (.inl ⟨i, l, h, sget i _ h1⟩), k6⟩
    ref := fun i l h => ⟨rfl, l, h⟩
    sep := fun i j l m hij h1 h2 => absurd (one i j l m (hh i l h1) (hh j m h2)) hij
    isref := fun i l h => ⟨l, h⟩ }
theorem argsR_ref {cs : List C} {i : Nat} {c : C} (h : (argsR cs)[i]? = some (some c)) : cs[i]? = some c := by
  unfold argsR at h
  rw [List.getElem?_map] at h
  cases e : cs[i]? with
  | none => rw [e] at h; cases h
  | some c' => rw [e] at h; cases h; rfl
theorem argsS_get {vs : List V} {i : Nat} {v : V} (h : (argsS vs)[i]? = some (some v)) : vs[i]? = some v := by
  unfold argsS at h
  rw [List.getElem?_map] at h
  cases e : vs[i]? with
  | none => rw [e] at h; cases h
  | some c' => rw [e] at h; cases h; rfl
/-- behind a call with data alone -/
theorem EnvOk.backD {S : Sit} {ρ : Rho} {σ : St} {H G H' G' : Hp} (E : EnvOk B S ρ σ H G) {cs cs' : List C} {vs : List V} (nr : ∀ (i : Nat) l, cs[i]? ≠ some (C.ref l)) (no : ∀ (i : Nat) l, cs[i]? ≠ some (C.own l)) (nk : ∀ (i : Nat) ks, cs[i]? ≠ some (C.dct ks))
    (E' : EnvOk B (Rf.reb (argsR cs) (argsS vs) H G) (argsR cs') (argsS vs) H' G') : EnvOk B S ρ σ H' G' ∧ Le G G' := by
  have nw : ∀ b, (Rf.reb (argsR cs) (argsS vs) H G).W b → H b = none := fun b h => by
    rcases h with h | ⟨i, l, h, _⟩ | ⟨i, ks, h, _⟩
    · exact h
    · rcases h with h | h
      · exact absurd (argsR_ref h) (no i l)
      · exact absurd (argsR_ref h) (nr i l)
    · exact absurd (argsR_ref h) (nk i ks)
  refine ⟨E.grow (fun b o e t => E'.keep b o e (fun z => by rw [nw b z] at e; cases e) t) (fun b e => E'.there b e) (fun b o e => E'.gsub b o e) (fun b o e => ?_) E'.sub E'.nt E'.sz E'.j, fun b o e => E'.gsub b o e⟩
  rcases E'.gnew b o e with h | h
  · exact .inl h
  · exact .inr (nw b h)
/-- the list of a slot is another one now -/
def setL (ρ : Rho) (i : Nat) (l : List D) : Rho := match ρ[i]? with
  | some (some (.own _)) => ρ.set i (some (.own l))
  | some (some (.ref _)) => ρ.set i (some (.ref l))
  | _ => ρ
def heldAt (ρ : Rho) (i : Nat) : Option (List D) := match ρ[i]? with
  | some (some (.own l)) => some l
  | some (some (.ref l)) => some l
  | _ => none
theorem heldAt_hd {ρ : Rho} {i : Nat} {l : List D} (h : heldAt ρ i = some l) : Hd ρ i l := by
  unfold heldAt at h
  split at h
  · rename_i m e; cases h; exact .inl e
  · rename_i m e; cases h; exact .inr e
  · cases h
theorem setL_other {ρ : Rho} {i j : Nat} {l : List D} (h : i ≠ j) : (setL ρ i l)[j]? = ρ[j]? := by
  unfold setL
  split
  · exact List.getElem?_set_ne h
  · exact List.getElem?_set_ne h
  · rfl
theorem setL_self {ρ : Rho} {i : Nat} {l l0 : List D} (h : Hd ρ i l0) : (ρ[i]? = some (some (.own l0)) ∧ (setL ρ i l)[i]? = some (some (.own l))) ∨ (ρ[i]? = some (some (.ref l0)) ∧ (setL ρ i l)[i]? = some (some (.ref l))) := by
  have hl : i < ρ.length := by
    rcases h with h | h
    · exact (List.getElem?_eq_some_iff.mp h).1
    · exact (List.getElem?_eq_some_iff.mp h).1
  unfold setL
  rcases h with h | h
  · rw [h]; exact .inl ⟨rfl, List.getElem?_set_self hl⟩
  · rw [h]; exact .inr ⟨rfl, List.getElem?_set_self hl⟩
theorem setL_length {ρ : Rho} {i : Nat} {l : List D} : (setL ρ i l).length = ρ.length := by
  unfold setL
  split
  · exact List.length_set ..
  · exact List.length_set ..
  · rfl
/-- the environment behind a change of the list at a, that slot i holds -/
theorem EnvOk.relist {S : Sit} {ρ : Rho} {σ : St} {H G H' G' : Hp} (E : EnvOk B S ρ σ H G) {i : Nat} {l l' : List D} {a : Addr} {vs' : List V} (h : Hd ρ i l) (ha : σ[i]? = some (some (.ref a)))
    (k : ∀ b o, H b = some o → b ≠ a → (∀ ps, o ≠ .tbl ps) → H' b = some o) (th : ∀ b, H' b = none → H b = none) (gs : Le G G') (gn : ∀ b o, G' b = some o → G b = some o ∨ H b = none) (su : ∀ b o, G' b = some o → H' b = some o)
    (nt : ∀ b ps, G' b ≠ some (.tbl ps)) (sz : ∀ b o, G' b = some o → szO o) (j : B.J H') (hv : H' a = some (.lst vs')) (hz : vs'.length ≤ sizeLine) (hd : DpAll B.K G' vs' l') : EnvOk B S (setL ρ i l') σ H' G' := by
  obtain ⟨a', us, k1, k2, k3, k4, k5, k6⟩ := E.held i l h
  rw [ha] at k1; cases k1
  have ga : G' a = none := by
    cases q : G' a with
    | none => rfl
    | some o =>
      rcases gn a o q with z | z
      · rw [k3] at z; cases z
      · rw [k2] at z; cases z
  have back : ∀ {x : Nat} {m : List D}, Hd (setL ρ i l') x m → (x = i ∧ m = l') ∨ (x ≠ i ∧ Hd ρ x m) := fun {x m} hx => by
    by_cases e : i = x
    · subst e
      refine .inl ⟨rfl, ?_⟩
      rcases setL_self (l := l') h with ⟨_, q⟩ | ⟨_, q⟩
      · rcases hx with hx | hx
        · rw [q] at hx; cases hx; rfl
        · rw [q] at hx; cases hx
      · rcases hx with hx | hx
        · rw [q] at hx; cases hx
        · rw [q] at hx; cases hx; rfl
    · refine .inr ⟨fun z => e z.symm, ?_⟩
      rcases hx with hx | hx
      · rw [setL_other e] at hx; exact .inl hx
      · rw [setL_other e] at hx; exact .inr hx
  exact {
    sub := su
    nt := nt
    sz := sz
    j := j
    keep := fun b o e n t => k b o (E.keep b o e n t) (fun z => n (by rw [z]; exact k5)) t
    there := fun b e => E.there b (th b e)
    gsub := fun b o e => gs b o (E.gsub b o e)
    gnew := fun b o e => by
      rcases gn b o e with z | z
      · exact E.gnew b o z
      · exact .inr (S.wn b (E.there b z))
    len := by rw [setL_length]; exact E.len
    dat := fun x d hx => by
      have e : i ≠ x := fun e => by
        subst e
        rcases setL_self (l := l') h with ⟨_, q⟩ | ⟨_, q⟩
        · rw [q] at hx; cases hx
        · rw [q] at hx; cases hx
      rw [setL_other e] at hx
      obtain ⟨v, h1, h2⟩ := E.dat x d hx
      exact ⟨v, h1, Dp.up gs h2⟩
    dct := fun x ks hx => by
      have e : i ≠ x := fun e => by
        subst e
        rcases setL_self (l := l') h with ⟨_, q⟩ | ⟨_, q⟩
        · rw [q] at hx; cases hx
        · rw [q] at hx; cases hx
      rw [setL_other e] at hx
      obtain ⟨c, h1, h2, h3, h4⟩ := E.dct x ks hx
      have nca : c ≠ a := fun z => by
        rw [z, k2] at h2
        exact dk_lst _ (Option.some.inj h2).symm
      refine ⟨c, h1, k c _ h2 nca dk_tbl, ?_, h4⟩
      cases q : G' c with
      | none => rfl
      | some o =>
        rcases gn c o q with z | z
        · rw [h3] at z; cases z
        · rw [h2] at z; cases z
    raw := fun x v hx => by
      have e : i ≠ x := fun e => by
        subst e
        rcases setL_self (l := l') h with ⟨_, q⟩ | ⟨_, q⟩
        · rw [q] at hx; cases hx
        · rw [q] at hx; cases hx
      rw [setL_other e] at hx
      exact E.raw x v hx
    rel := fun x k d hx => by
      have e : i ≠ x := fun e => by
        subst e
        rcases setL_self (l := l') h with ⟨_, q⟩ | ⟨_, q⟩
        · rw [q] at hx; cases hx
        · rw [q] at hx; cases hx
      rw [setL_other e] at hx
      obtain ⟨v, k1, k2⟩ := E.rel x k d hx
      exact ⟨v, k1, B.rs gs k2⟩
    dnq := fun x y ks ks' h1 h2 => by
      have ex : ∀ {x : Nat} {ks : List (List Int)}, (setL ρ i l')[x]? = some (some (C.dct ks)) → ρ[x]? = some (some (C.dct ks)) := fun {x ks} hx => by
        have e : i ≠ x := fun e => by
          subst e
          rcases setL_self (l := l') h with ⟨_, q⟩ | ⟨_, q⟩
          · rw [q] at hx; cases hx
          · rw [q] at hx; cases hx
        rw [setL_other e] at hx
        exact hx
      exact E.dnq x y ks ks' (ex h1) (ex h2)
    held := fun x m hx => by
      rcases back hx with ⟨rfl, rfl⟩ | ⟨ne, hx⟩
      · exact ⟨a, vs', ha, hv, ga, hd, k5, hz⟩
      · obtain ⟨c, ws, m1, m2, m3, m4, m5, m6⟩ := E.held x m hx
        have nca : c ≠ a := fun z => by
          subst z
          exact E.sep x i m l ne hx h (by rw [m1, ha])
        refine ⟨c, ws, m1, k c _ m2 nca (fun ps z => by cases z), ?_, DpAll.up gs m4, m5, m6⟩
        cases q : G' c with
        | none => rfl
        | some o =>
          rcases gn c o q with z | z
          · rw [m3] at z; cases z
          · rw [m2] at z; cases z
    ref := fun x m hx => by
      by_cases e : i = x
      · subst e
        rcases setL_self (l := l') h with ⟨_, q⟩ | ⟨q0, _⟩
        · rw [q] at hx; cases hx
        · exact E.ref i l q0
      · rw [setL_other e] at hx; exact E.ref x m hx
    sep := fun x y m n hxy h1 h2 => by
      rcases back h1 with ⟨ex, _⟩ | ⟨n1, h1'⟩
      · rcases back h2 with ⟨ey, _⟩ | ⟨n2, h2'⟩
        · exact absurd (ex.trans ey.symm) hxy
        · exact E.sep x y l n hxy (ex ▸ h) h2'
      · rcases back h2 with ⟨ey, _⟩ | ⟨n2, h2'⟩
        · exact E.sep x y m l hxy h1' (ey ▸ h)
        · exact E.sep x y m n hxy h1' h2'
    isref := fun x m hx => by
      obtain ⟨m', h'⟩ := E.isref x m hx
      by_cases e : i = x
      · subst e
        rcases setL_self (l := l') h with ⟨q, _⟩ | ⟨_, q⟩
        · rw [q] at h'; cases h'
        · exact ⟨l', q⟩
      · exact ⟨m', by rw [setL_other e]; exact h'⟩ }
/-- behind a call whose first argument was lent -/
theorem EnvOk.backR {S : Sit} {ρ : Rho} {σ : St} {H G H' G' : Hp} (E : EnvOk B S ρ σ H G) {i : Nat} {l l' : List D} {a : Addr} {ds : List D} {cs' : List C} {vs : List V} (h : Hd ρ i l) (ha : σ[i]? = some (some (.ref a)))
    (E' : EnvOk B (Rf.reb (argsR (.ref l :: ds.map .dat)) (argsS (.ref a :: vs)) H G) (argsR (.ref l' :: cs')) (argsS (.ref a :: vs)) H' G') : EnvOk B S (setL ρ i l') σ H' G' ∧ Le G G' := by
  obtain ⟨a', us, k1, k2, k3, k4, k5, k6⟩ := E.held i l h
  rw [ha] at k1; cases k1
  have wc : ∀ b, (Rf.reb (argsR (.ref l :: ds.map .dat)) (argsS (.ref a :: vs)) H G).W b → H b = none ∨ b = a := fun b hb => by
    rcases hb with hb | ⟨x, m, hb, hs⟩ | ⟨x, ks, hb, _⟩
    · exact .inl hb
    rotate_left
    · exfalso
      have hb := argsR_ref hb
      cases x with
      | zero => cases hb
      | succ x =>
        rw [List.getElem?_cons_succ, List.getElem?_map] at hb
        cases e : ds[x]? with
        | none => rw [e] at hb; cases hb
        | some d => rw [e] at hb; cases hb
    · refine .inr ?_
      cases x with
      | zero =>
        have : (argsS (.ref a :: vs))[0]? = some (some (V.ref a)) := rfl
        rw [this] at hs; cases hs; rfl
      | succ x =>
        have q : ∀ c, (C.ref l :: ds.map C.dat)[x + 1]? = some c → ∃ d, c = .dat d := fun c hc => by
          rw [List.getElem?_cons_succ, List.getElem?_map] at hc
          cases e : ds[x]? with
          | none => rw [e] at hc; cases hc
          | some d => rw [e] at hc; cases hc; exact ⟨d, rfl⟩
        rcases hb with hb | hb
        · obtain ⟨d, z⟩ := q _ (argsR_ref hb); cases z
        · obtain ⟨d, z⟩ := q _ (argsR_ref hb); cases z
  obtain ⟨a2, ws, m1, m2, m3, m4, m5, m6⟩ := E'.held 0 l' (.inr rfl)
  have e2 : (argsS (.ref a :: vs))[0]? = some (some (V.ref a)) := rfl
  rw [e2] at m1; cases m1
  refine ⟨E.relist h ha (fun b o e n t => E'.keep b o e (fun z => ?_) t) (fun b e => E'.there b e) (fun b o e => E'.gsub b o e) (fun b o e => ?_) E'.sub E'.nt E'.sz E'.j m2 m6 m4, fun b o e => E'.gsub b o e⟩
  · rcases wc b z with z | z
    · rw [z] at e; cases e
    · exact n z
  · rcases E'.gnew b o e with z | z
    · exact .inl z
    · rcases wc b z with z | z
      · exact .inr z
      · subst z
        rw [m3] at e; cases e

def sCallD (f : FSem) (fa : Rho → O (List D)) : Rho → O D := fun ρ => (fa ρ).bind fun ds ρ1 => match f (ds.map .dat) with
  | .ret d _ => .ok d ρ1
  | .retO l _ => .ok (.list l) ρ1
  | .retK _ _ => .no
  | .retV _ _ _ => .no
  | .exc e _ => .ex e ρ1
  | .no => .no
theorem datsW {ds : List D} : ∀ (i : Nat) v, (ds.map C.dat)[i]? ≠ some (C.raw v) := fun i ks h => by
  rw [List.getElem?_map] at h
  cases e : ds[i]? with
  | none => rw [e] at h; cases h
  | some d => rw [e] at h; cases h
theorem datsQ {ds : List D} : ∀ (i k : Nat) d, (ds.map C.dat)[i]? ≠ some (C.rel k d) := fun i k d' h => by
  rw [List.getElem?_map] at h
  cases e : ds[i]? with
  | none => rw [e] at h; cases h
  | some d => rw [e] at h; cases h
theorem datsK {ds : List D} : ∀ (i : Nat) ks, (ds.map C.dat)[i]? ≠ some (C.dct ks) := fun i ks h => by
  rw [List.getElem?_map] at h
  cases e : ds[i]? with
  | none => rw [e] at h; cases h
  | some d => rw [e] at h; cases h
theorem datsNo {ds : List D} : (∀ (i : Nat) l, (ds.map C.dat)[i]? ≠ some (C.ref l)) ∧ ∀ (i : Nat) l, (ds.map C.dat)[i]? ≠ some (C.own l) := by
  have q : ∀ (i : Nat) c, (ds.map C.dat)[i]? = some c → ∃ d, c = .dat d := fun i c hc => by
    rw [List.getElem?_map] at hc
    cases e : ds[i]? with
    | none => rw [e] at hc; cases hc
    | some d => rw [e] at hc; cases hc; exact ⟨d, rfl⟩
  exact ⟨fun i l h => (let ⟨d, z⟩ := q i _ h; (nomatch z)), fun i l h => (let ⟨d, z⟩ := q i _ h; (nomatch z))⟩
theorem dats_get {ds : List D} {i : Nat} {d : D} (h : (ds.map C.dat)[i]? = some (C.dat d)) : ds[i]? = some d := by
  rw [List.getElem?_map] at h
  cases e : ds[i]? with
  | none => rw [e] at h; cases h
  | some d => rw [e] at h; cases h; rfl
theorem enterD {S : Sit} {ρ : Rho} {σ : St} {H G : Hp} (E : EnvOk B S ρ σ H G) {ds : List D} {vs : List V} (h : DpAll B.K G vs ds) : EnvOk B (Rf.reb (argsR (ds.map .dat)) (argsS vs) H G) (argsR (ds.map .dat)) (argsS vs) H G :=
  E.enter (by rw [List.length_map]; exact h.length.symm) (fun i d e => h.get (dats_get e)) datsNo.2 datsK (fun i v e => absurd e (datsW i v)) (fun i k d e => absurd e (datsQ i k d)) (fun i l e => absurd e (datsNo.1 i l)) fun i j l m e => absurd e (datsNo.1 i l)
theorem r_callD {lv n : Nat} {x : Str} {f : FSem} {e : Expr} {es : List Expr} {p pos : Pos} {fa : Rho → O (List D)} (hK : X.K = B.K) (F : FnGood B X.prog X.w X.mg X.base lv x n f) (hr : Room lv X.A) (hg : Gl X x) (tk : L2N.Takes X Wx) (ha : PA X (e :: es) (tEs B Wx fa)) (hdb : (x == ("__debug__" : Str)) = false)
    (he : starEach (e :: es) X.env = (false, eval e X.env) :: starEach es X.env) (hpl : (backTo pos (starEach es X.env)).any (·.1) = false) : PE X (.Call (.Name x p) (e :: es) [] pos) (tEv B Wx (sCallD f fa)) :=
  pe_late fun σ H Q ⟨S, ρ, G, E, P⟩ => by
    obtain ⟨ad, fd, ps, h1, h2, h3, h4, h5⟩ := F.ex
    rw [← hK] at h1 h3 h4
    have P1 := P.bind
    cases q : fa ρ with
    | no => rw [q] at P1; exact False.elim P1
    | ex e' ρ1 =>
      rw [q] at P1
      exact ⟨_, pe_callS h1 hr hg h2 h3 h4 (fun σ => L2N.passAt tk σ) ha hdb he hpl, ⟨S, ρ, G, E, by rw [q]; exact P1⟩⟩
    | ok ds ρ1 =>
      rw [q] at P1
      refine ⟨_, pe_callS h1 hr hg h2 h3 h4 (fun σ => L2N.passAt tk σ) ha hdb he hpl, ⟨S, ρ, G, E, ?_⟩⟩
      rw [q]
      intro H1 G1 E1 le1 vs hvs
      have P2 := P1 H1 G1 E1 le1
      dsimp only at P2
      refine ⟨G1, ds.map .dat, datsNo.2, datsK, enterD E1 hvs, ?_⟩
      cases ef : f (ds.map .dat) with
      | no => rw [ef] at P2; exact P2
      | ret d cs' =>
        rw [ef] at P2
        intro v H' G' E' dv
        obtain ⟨E2, le2⟩ := E1.backD datsNo.1 datsNo.2 datsK E'
        exact P2 H' G' E2 le2 v dv
      | retO l cs' =>
        rw [ef] at P2
        intro p us H' G' E' g1 g2 g3 g4 g5
        obtain ⟨E2, le2⟩ := E1.backD datsNo.1 datsNo.2 datsK E'
        have E3 := E2.freeze g1 g2 (S.wn p (E1.there p g3)) (E1.loose g3) g4
        exact P2 H' _ E3 (le2.trans (Le.upd g2)) _ (.lst (SqL.of upd_same) (DpAll.up (Le.upd g2) g5))
      | retK l cs' => rw [ef] at P2; exact P2.elim
      | retV k l cs' => rw [ef] at P2; exact P2.elim
      | exc e' cs' =>
        rw [ef] at P2
        intro cls a H' G' E' ex
        obtain ⟨E2, le2⟩ := E1.backD datsNo.1 datsNo.2 datsK E'
        exact P2 cls a H' G' E2 le2 ex
/-- a call that gives a new list, kept as the slot's own -/
def sCallO (f : FSem) (fa : Rho → O (List D)) : Rho → O (List D) := fun ρ => (fa ρ).bind fun ds ρ1 => match f (ds.map .dat) with
  | .retO l _ => .ok l ρ1
  | .exc e _ => .ex e ρ1
  | _ => .no
theorem r_callO {lv n : Nat} {x : Str} {f : FSem} {e : Expr} {es : List Expr} {p pos : Pos} {fa : Rho → O (List D)} (hK : X.K = B.K) (F : FnGood B X.prog X.w X.mg X.base lv x n f) (hr : Room lv X.A) (hg : Gl X x) (tk : L2N.Takes X Wx) (ha : PA X (e :: es) (tEs B Wx fa)) (hdb : (x == ("__debug__" : Str)) = false)
    (he : starEach (e :: es) X.env = (false, eval e X.env) :: starEach es X.env) (hpl : (backTo pos (starEach es X.env)).any (·.1) = false) : PE X (.Call (.Name x p) (e :: es) [] pos) (tEo B Wx (sCallO f fa)) :=
  pe_late fun σ H Q ⟨S, ρ, G, E, P⟩ => by
    obtain ⟨ad, fd, ps, h1, h2, h3, h4, h5⟩ := F.ex
    rw [← hK] at h1 h3 h4
    have P1 := P.bind
    refine ⟨_, pe_callS h1 hr hg h2 h3 h4 (fun σ => L2N.passAt tk σ) ha hdb he hpl, ⟨S, ρ, G, E, P1.imp fun ds ρ1 H1 G1 E1 le1 P2 vs hvs => ?_⟩⟩
    refine ⟨G1, ds.map .dat, datsNo.2, datsK, enterD E1 hvs, ?_⟩
    cases ef : f (ds.map .dat) with
    | no => rw [ef] at P2; exact P2
    | ret d cs' => rw [ef] at P2; exact P2.elim
    | retK d cs' => rw [ef] at P2; exact P2.elim
    | retV k d cs' => rw [ef] at P2; exact P2.elim
    | retO l cs' =>
      rw [ef] at P2
      intro p us H' G' E' g1 g2 g3 g4 g5
      obtain ⟨E2, le2⟩ := E1.backD datsNo.1 datsNo.2 datsK E'
      exact P2 H' G' E2 le2 p us g1 g2 (S.wn p (E1.there p g3)) (E1.loose g3) g4 g5
    | exc e' cs' =>
      rw [ef] at P2
      intro cls a H' G' E' ex
      obtain ⟨E2, le2⟩ := E1.backD datsNo.1 datsNo.2 datsK E'
      exact P2 cls a H' G' E2 le2 ex
/-- a call that gives a dict -/
def tEk (B : Bs) (Wx : WX) (f : Rho → O (List (List Int))) : TE := fun σ H Q => ∃ S ρ G, EnvOk B S ρ σ H G ∧ Post B S Wx σ G (f ρ) (fun ks _ H' G' => ∀ a, H' a = some (dkOf ks) → G' a = none → S.W a → Q (.ref a) H')
def sCallK (f : FSem) (fa : Rho → O (List D)) : Rho → O (List (List Int)) := fun ρ => (fa ρ).bind fun ds ρ1 => match f (ds.map .dat) with
  | .retK ks _ => .ok ks ρ1
  | .exc e _ => .ex e ρ1
  | _ => .no
theorem r_callK {lv n : Nat} {x : Str} {f : FSem} {e : Expr} {es : List Expr} {p pos : Pos} {fa : Rho → O (List D)} (hK : X.K = B.K) (F : FnGood B X.prog X.w X.mg X.base lv x n f) (hr : Room lv X.A) (hg : Gl X x) (tk : L2N.Takes X Wx) (ha : PA X (e :: es) (tEs B Wx fa)) (hdb : (x == ("__debug__" : Str)) = false)
    (he : starEach (e :: es) X.env = (false, eval e X.env) :: starEach es X.env) (hpl : (backTo pos (starEach es X.env)).any (·.1) = false) : PE X (.Call (.Name x p) (e :: es) [] pos) (tEk B Wx (sCallK f fa)) :=
  pe_late fun σ H Q ⟨S, ρ, G, E, P⟩ => by
    obtain ⟨ad, fd, ps, h1, h2, h3, h4, h5⟩ := F.ex
    rw [← hK] at h1 h3 h4
    have P1 := P.bind
    refine ⟨_, pe_callS h1 hr hg h2 h3 h4 (fun σ => L2N.passAt tk σ) ha hdb he hpl, ⟨S, ρ, G, E, P1.imp fun ds ρ1 H1 G1 E1 le1 P2 vs hvs => ?_⟩⟩
    refine ⟨G1, ds.map .dat, datsNo.2, datsK, enterD E1 hvs, ?_⟩
    cases ef : f (ds.map .dat) with
    | no => rw [ef] at P2; exact P2
    | ret d cs' => rw [ef] at P2; exact P2.elim
    | retO d cs' => rw [ef] at P2; exact P2.elim
    | retV k d cs' => rw [ef] at P2; exact P2.elim
    | retK ks cs' =>
      rw [ef] at P2
      intro a H' G' E' g1 g2 g3
      obtain ⟨E2, le2⟩ := E1.backD datsNo.1 datsNo.2 datsK E'
      exact P2 H' G' E2 le2 a g1 g2 (S.wn a (E1.there a g3))
    | exc e' cs' =>
      rw [ef] at P2
      intro cls a H' G' E' ex
      obtain ⟨E2, le2⟩ := E1.backD datsNo.1 datsNo.2 datsK E'
      exact P2 cls a H' G' E2 le2 ex
def sCallR (f : FSem) (i : Nat) (fa : Rho → O (List D)) : Rho → O D := fun ρ => match heldAt ρ i with
  | none => .no
  | some _ => (fa ρ).bind fun ds ρ1 => match heldAt ρ1 i with
    | none => .no
    | some l => match f (.ref l :: ds.map .dat) with
      | .ret d (.ref l' :: _) => .ok d (setL ρ1 i l')
      | .exc e (.ref l' :: _) => .ex e (setL ρ1 i l')
      | _ => .no
theorem r_callR {lv n i : Nat} {x y : Str} {f : FSem} {es : List Expr} {p py pos : Pos} {fa : Rho → O (List D)} (hK : X.K = B.K) (F : FnGood B X.prog X.w X.mg X.base lv x n f) (hr : Room lv X.A) (hg : Gl X x) (tk : L2N.Takes X Wx) (hN : X.N[i]? = some y) (hv : Vis X.env.scope y) (hd : (y == ("__debug__" : Str)) = false) (hcd : (y == ("__classdict__" : Str)) = false)
    (ha : PA X es (tEs B Wx fa)) (hdb : (x == ("__debug__" : Str)) = false) (he : starEach (.Name y py :: es) X.env = (false, eval (.Name y py) X.env) :: starEach es X.env) (hpl : (backTo pos (starEach es X.env)).any (·.1) = false) : PE X (.Call (.Name x p) (.Name y py :: es) [] pos) (tEv B Wx (sCallR f i fa)) :=
  pe_late fun σ H Q ⟨S, ρ, G, E, P⟩ => by
    obtain ⟨ad, fd, ps, h1, h2, h3, h4, h5⟩ := F.ex
    rw [← hK] at h1 h3 h4
    unfold sCallR at P
    cases hh : heldAt ρ i with
    | none => rw [hh] at P; exact False.elim P
    | some l0 =>
      rw [hh] at P
      obtain ⟨a, us, k1, _⟩ := E.held i l0 (heldAt_hd hh)
      refine ⟨_, pe_callS h1 hr hg h2 h3 h4 (fun σ => L2N.passAt tk σ) (pa_cons (pe_var hN hv hd hcd) ha he) hdb he hpl, ⟨_, k1, S, ρ, G, E, P.bind.imp fun ds ρ1 H1 G1 E1 le1 P2 vs hvs => ?_⟩⟩
      cases h2' : heldAt ρ1 i with
      | none => rw [h2'] at P2; exact False.elim P2
      | some l =>
        rw [h2'] at P2
        have hl := heldAt_hd h2'
        refine ⟨G1, .ref l :: ds.map .dat, ?_, ?_, ?_, ?_⟩
        · intro j m z
          cases j with
          | zero => cases z
          | succ j => exact (datsNo (ds := ds)).2 j m (show (ds.map C.dat)[j]? = some _ from z)
        · intro j m z
          cases j with
          | zero => cases z
          | succ j => exact datsK (ds := ds) j m (show (ds.map C.dat)[j]? = some _ from z)
        · refine E1.enter (by simp [hvs.length]) (fun j d e => ?_) (fun j m z => ?_) (fun j m z => ?_) (fun j m z => ?_) (fun j k m z => ?_) (fun j m e => ?_) fun j1 j2 m1 m2 e1 e2 => ?_
          · cases j with
            | zero => cases e
            | succ j =>
              obtain ⟨v, g1, g2⟩ := hvs.get (dats_get (show (ds.map C.dat)[j]? = some _ from e))
              exact ⟨v, g1, g2⟩
          · cases j with
            | zero => cases z
            | succ j => exact (datsNo (ds := ds)).2 j m (show (ds.map C.dat)[j]? = some _ from z)
          · cases j with
            | zero => cases z
            | succ j => exact datsK (ds := ds) j m (show (ds.map C.dat)[j]? = some _ from z)
          · cases j with
            | zero => cases z
            | succ j => exact absurd (show (ds.map C.dat)[j]? = some _ from z) (datsW (ds := ds) j m)
          · cases j with
            | zero => cases z
            | succ j => exact absurd (show (ds.map C.dat)[j]? = some _ from z) (datsQ (ds := ds) j k m)
          · cases j with
            | zero => cases e; exact ⟨i, a, rfl, hl, k1⟩
            | succ j => exact absurd (show (ds.map C.dat)[j]? = some _ from e) ((datsNo (ds := ds)).1 j m)
          · cases j1 with
            | zero => cases j2 with
              | zero => rfl
              | succ j2 => exact absurd (show (ds.map C.dat)[j2]? = some _ from e2) ((datsNo (ds := ds)).1 j2 m2)
            | succ j1 => exact absurd (show (ds.map C.dat)[j1]? = some _ from e1) ((datsNo (ds := ds)).1 j1 m1)
        · cases ef : f (.ref l :: ds.map .dat) with
          | no => dsimp only at P2; rw [ef] at P2; exact P2
          | ret d cs' =>
            dsimp only at P2
            rw [ef] at P2
            intro v H' G' E' dv
            match cs', P2, E' with
            | .ref l' :: r, P2, E' =>
              obtain ⟨E2, le2⟩ := E1.backR hl k1 E'
              exact P2 H' G' E2 le2 v dv
            | [], P2, E' => exact False.elim P2
            | .dat _ :: _, P2, E' => exact False.elim P2
            | .own _ :: _, P2, E' => exact False.elim P2
            | .dct _ :: _, P2, E' => exact False.elim P2
          | retO l2 cs' => dsimp only at P2; rw [ef] at P2; exact P2.elim
          | retK l2 cs' => dsimp only at P2; rw [ef] at P2; exact P2.elim
          | retV k l2 cs' => dsimp only at P2; rw [ef] at P2; exact P2.elim
          | exc e' cs' =>
            dsimp only at P2
            rw [ef] at P2
            intro cls b H' G' E' ex
            match cs', P2, E' with
            | .ref l' :: r, P2, E' =>
              obtain ⟨E2, le2⟩ := E1.backR hl k1 E'
              exact P2 cls b H' G' E2 le2 ex
            | [], P2, E' => exact False.elim P2
            | .dat _ :: _, P2, E' => exact False.elim P2
            | .own _ :: _, P2, E' => exact False.elim P2
            | .dct _ :: _, P2, E' => exact False.elim P2
end
end Rf

set_option maxRecDepth 100000
set_option maxHeartbeats 4000000
namespace Rf
open PySem PySem.Spec PyProof.Rows L2
/-! ### statements -/
inductive OS where
  | nx (ρ : Rho) | ret (d : D) (ρ : Rho) | retO (l : List D) (ρ : Rho) | retK (ks : List (List Int)) (ρ : Rho) | retV (k : Nat) (d : D) (ρ : Rho) | ex (e : Exc) (ρ : Rho) | no
def OS.bind (x : OS) (f : Rho → OS) : OS := match x with
  | .nx ρ => f ρ
  | .ret d ρ => .ret d ρ
  | .retO l ρ => .retO l ρ
  | .retK l ρ => .retK l ρ
  | .retV k l ρ => .retV k l ρ
  | .ex e ρ => .ex e ρ
  | .no => .no
def O.run {α : Type} (x : O α) (f : α → Rho → OS) : OS := match x with
  | .ok a ρ => f a ρ
  | .ex e ρ => .ex e ρ
  | .no => .no
def PostS (B : Bs) (S : Sit) (Wx : WX) (G : Hp) (o : OS) (D : Ends) : Prop := match o with
  | .nx ρ' => ∀ σ' H' G', EnvOk B S ρ' σ' H' G' → Le G G' → D.nx σ' H'
  | .ret d ρ' => ∀ σ' H' G', EnvOk B S ρ' σ' H' G' → Le G G' → ∀ v, Dp B.K G' v d → D.rt v H'
  | .retO l ρ' => ∀ σ' H' G', EnvOk B S ρ' σ' H' G' → Le G G' → ∀ p vs, H' p = some (.lst vs) → G' p = none → S.W p → Loose ρ' σ' p → vs.length ≤ sizeLine → DpAll B.K G' vs l → D.rt (.ref p) H'
  | .retK ks ρ' => ∀ σ' H' G', EnvOk B S ρ' σ' H' G' → Le G G' → ∀ a, H' a = some (dkOf ks) → G' a = none → S.W a → D.rt (.ref a) H'
  | .retV k d ρ' => ∀ σ' H' G', EnvOk B S ρ' σ' H' G' → Le G G' → ∀ v, B.RV k d G' v → D.rt v H'
  | .ex e ρ' => ∀ cls a σ' H' G', EnvOk B S ρ' σ' H' G' → Le G G' → B.EX e cls a H' → Wx cls a σ' H'
  | .no => False
def tSt (B : Bs) (Wx : WX) (f : Rho → OS) : TS := fun D σ H => ∃ S ρ G, EnvOk B S ρ σ H G ∧ PostS B S Wx G (f ρ) D
section
variable {X : Cx} {B : Bs} {Wx : WX} {S : Sit} {σ : St} {H G G' : Hp} {D : Ends} {α : Type}
theorem PostS.le {o : OS} (h : PostS B S Wx G o D) (le : Le G G') : PostS B S Wx G' o D := by
  cases o with
  | nx ρ => exact fun σ1 H1 G1 E1 l1 => h σ1 H1 G1 E1 (le.trans l1)
  | ret d ρ => exact fun σ1 H1 G1 E1 l1 => h σ1 H1 G1 E1 (le.trans l1)
  | retO l ρ => exact fun σ1 H1 G1 E1 l1 => h σ1 H1 G1 E1 (le.trans l1)
  | retK l ρ => exact fun σ1 H1 G1 E1 l1 => h σ1 H1 G1 E1 (le.trans l1)
  | retV k l ρ => exact fun σ1 H1 G1 E1 l1 => h σ1 H1 G1 E1 (le.trans l1)
  | ex e ρ => exact fun c a σ1 H1 G1 E1 l1 => h c a σ1 H1 G1 E1 (le.trans l1)
  | no => exact h
/-- an expression's part of a statement -/
theorem PostS.run {x : O α} {f : α → Rho → OS} (h : PostS B S Wx G (x.run f) D) : Post B S Wx σ G x (fun a ρ1 H1 G1 => PostS B S Wx G1 (f a ρ1) D) := by
  cases x with
  | ok a ρ => exact fun H1 G1 E1 l1 => PostS.le h l1
  | ex e ρ => exact fun c a H1 G1 E1 l1 => h c a σ H1 G1 E1 l1
  | no => exact h
theorem PostS.bind {x : OS} {f : Rho → OS} (h : PostS B S Wx G (x.bind f) D) : PostS B S Wx G x { D with nx := tSt B Wx f D } := by
  cases x with
  | nx ρ => exact fun σ1 H1 G1 E1 l1 => ⟨S, ρ, G1, E1, PostS.le h l1⟩
  | ret d ρ => exact h
  | retO l ρ => exact h
  | retK l ρ => exact h
  | retV k l ρ => exact h
  | ex e ρ => exact h
  | no => exact h
def sSkip : Rho → OS := fun ρ => .nx ρ
def sSeq (f g : Rho → OS) : Rho → OS := fun ρ => (f ρ).bind g
theorem q_nil : PSs X [] (tSt B Wx sSkip) := pss_nil.imp' fun D σ H ⟨S, ρ, G, E, P⟩ => P σ H G E Le.refl
theorem q_cons {st : Stmt} {rest : List Stmt} {f g : Rho → OS} (h1 : PS X st (tSt B Wx f)) (h2 : PSs X rest (tSt B Wx g)) : PSs X (st :: rest) (tSt B Wx (sSeq f g)) :=
  (pss_cons h1 h2).imp' fun D σ H ⟨S, ρ, G, E, P⟩ => ⟨S, ρ, G, E, P.bind⟩
def sRet (fa : Rho → O Rf.D) : Rho → OS := fun ρ => (fa ρ).run fun d ρ1 => .ret d ρ1
theorem q_ret {e : Expr} {pos : Pos} {fa : Rho → O Rf.D} (he : PE X e (tEv B Wx fa)) : PS X (.Return (some e) pos) (tSt B Wx (sRet fa)) :=
  (ps_ret he).imp' fun D σ H ⟨S, ρ, G, E, P⟩ => ⟨S, ρ, G, E, P.run.imp fun d ρ1 H1 G1 E1 le1 q v hv => q σ H1 G1 E1 Le.refl v hv⟩
def sRetO (fa : Rho → O (List Rf.D)) : Rho → OS := fun ρ => (fa ρ).run fun l ρ1 => .retO l ρ1
theorem q_retO {e : Expr} {pos : Pos} {fa : Rho → O (List Rf.D)} (he : PE X e (tEo B Wx fa)) : PS X (.Return (some e) pos) (tSt B Wx (sRetO fa)) :=
  (ps_ret he).imp' fun D σ H ⟨S, ρ, G, E, P⟩ => ⟨S, ρ, G, E, P.run.imp fun d ρ1 H1 G1 E1 le1 q p vs h1 h2 h3 h4 h5 h6 => q σ H1 G1 E1 Le.refl p vs h1 h2 h3 h4 h5 h6⟩
def sRetN : Rho → OS := fun ρ => .ret .none ρ
theorem q_retN {pos : Pos} : PS X (.Return none pos) (tSt B Wx sRetN) := ps_retN.imp' fun D σ H ⟨S, ρ, G, E, P⟩ => P σ H G E Le.refl _ .non
def sNever : Rho → OS := fun _ => .no
theorem q_never {st : Stmt} : PS X st (tSt B Wx sNever) := ps_never.imp' fun D σ H ⟨S, ρ, G, E, P⟩ => P
def sExpr (fa : Rho → O Rf.D) : Rho → OS := fun ρ => (fa ρ).run fun _ ρ1 => .nx ρ1
theorem q_expr {e : Expr} {pos : Pos} {fa : Rho → O Rf.D} (he : PE X e (tEv B Wx fa)) (hs : swapsWith e none pos.line X.env = pure false) : PS X (.Expr e pos) (tSt B Wx (sExpr fa)) :=
  (ps_expr he hs).imp' fun D σ H ⟨S, ρ, G, E, P⟩ => ⟨S, ρ, G, E, P.run.imp fun d ρ1 H1 G1 E1 le1 q v hv => q σ H1 G1 E1 Le.refl⟩
def sIf (fc : Rho → O Rf.D) (f g : Rho → OS) : Rho → OS := fun ρ => (fc ρ).run fun c ρ1 => match c with
  | .bool true => f ρ1
  | .bool false => g ρ1
  | _ => .no
theorem q_if {c : Expr} {a b : List Stmt} {pos : Pos} {fc : Rho → O Rf.D} {f g : Rho → OS} (hc : PT X c (tEt B Wx fc)) (ha : PSs X a (tSt B Wx f)) (hb : PSs X b (tSt B Wx g)) : PS X (.If c a b pos) (tSt B Wx (sIf fc f g)) :=
  (ps_if hc ha hb).imp' fun D σ H ⟨S, ρ, G, E, P⟩ => by
    refine ⟨S, ρ, G, E, P.run.imp fun d ρ1 H1 G1 E1 le1 q => ?_⟩
    split at q
    · exact ⟨true, rfl, ifT ⟨S, ρ1, G1, E1, q⟩⟩
    · exact ⟨false, rfl, ifF ⟨S, ρ1, G1, E1, q⟩⟩
    · exact False.elim q
/-- target = data -/
def sAsg (t : Tg) (fa : Rho → O Rf.D) : Rho → OS := fun ρ => (fa ρ).run fun d ρ1 => match bindT t d ρ1 with
  | some ρ2 => .nx ρ2
  | none => .no
theorem q_asg {tg e : Expr} {t : Tg} {pos : Pos} {fa : Rho → O Rf.D} (he : PE X e (tEv B Wx fa)) (hg : PG X tg (tTg B t)) (hs : swapsWithSole [tg] e pos.line X.env = pure false) (hw : swappedStores [tg] e X.env = pure none)
    (h1 : (assignEach [tg] X.env).map (·.2) = [assign tg X.env]) : PS X (.Assign [tg] e pos) (tSt B Wx (sAsg t fa)) :=
  (ps_asg he hg hs hw h1).imp' fun D σ H ⟨S, ρ, G, E, P⟩ => by
    refine ⟨S, ρ, G, E, P.run.imp fun d ρ1 H1 G1 E1 le1 q v hv => ?_⟩
    cases e : bindT t d ρ1 with
    | none => rw [e] at q; exact False.elim q
    | some ρ2 =>
      rw [e] at q
      exact ⟨S, ρ1, G1, d, ρ2, E1, hv, e, fun σ' E' _ => q σ' H1 G1 E' Le.refl⟩
/-- name = a new list, the slot's own -/
def ownN (i : Nat) (l : List Rf.D) (ρ : Rho) : Option Rho := match ρ[i]? with
  | none => none
  | some (some (.ref _)) => none
  | some _ => some (ρ.set i (some (.own l)))
def sAsgO (i : Nat) (fa : Rho → O (List Rf.D)) : Rho → OS := fun ρ => (fa ρ).run fun l ρ1 => match ownN i l ρ1 with
  | some ρ2 => .nx ρ2
  | none => .no
theorem EnvOk.ownN {ρ ρ' : Rho} {i : Nat} {l : List Rf.D} {p : Addr} {vs : List V} (E : EnvOk B S ρ σ H G) (h : Rf.ownN i l ρ = some ρ') (hp : H p = some (.lst vs)) (hg : G p = none) (hw : S.W p) (lo : Loose ρ σ p) (hz : vs.length ≤ sizeLine) (hd : DpAll B.K G vs l) :
    EnvOk B S ρ' (σ.set i (some (.ref p))) H G := by
  unfold Rf.ownN at h
  split at h
  · cases h
  · cases h
  · rename_i c n h1
    cases h
    exact E.putOwn hp hg hw lo hz hd fun l z => by
      rw [h1] at z
      exact n l (Option.some.inj z)
theorem q_asgO {i : Nat} {x : Str} {e : Expr} {px pos : Pos} {fa : Rho → O (List Rf.D)} (hN : X.N.Nodup) (hi : X.N[i]? = some x) (hx : Loc X.env.scope x) (hf : X.fn x = true ∨ X.env.scope.names.lookup x = some .local) (he : PE X e (tEo B Wx fa))
    (hs : swapsWith e (some (.Name x px)) pos.line X.env = pure false) : PS X (.Assign [.Name x px] e pos) (tSt B Wx (sAsgO i fa)) :=
  (ps_set hN hi hx he hs hf).imp' fun D σ H ⟨S, ρ, G, E, P⟩ => by
    refine ⟨S, ρ, G, E, P.run.imp fun l ρ1 H1 G1 E1 le1 q p vs h1 h2 h3 h4 h5 h6 => ?_⟩
    cases e : Rf.ownN i l ρ1 with
    | none => rw [e] at q; exact False.elim q
    | some ρ2 =>
      rw [e] at q
      exact q _ H1 G1 (E1.ownN e h1 h2 h3 h4 h5 h6) Le.refl
/-- name = a dict -/
def isDct : Option (Option C) → Bool
  | some (some (.dct _)) => true
  | _ => false
def noDct (ρ : Rho) (i : Nat) : Bool := (List.range ρ.length).all fun j => j == i || !isDct ρ[j]?
theorem noDct_eq {ρ : Rho} {i j : Nat} {ks : List (List Int)} (h : noDct ρ i = true) (hj : ρ[j]? = some (some (.dct ks))) : j = i := by
  have hl : j < ρ.length := (List.getElem?_eq_some_iff.mp hj).1
  have := List.all_eq_true.mp h j (List.mem_range.mpr hl)
  rw [hj] at this
  unfold isDct at this
  simpa using this
def dctN (i : Nat) (ks : List (List Int)) (ρ : Rho) : Option Rho := if noDct ρ i = true then match ρ[i]? with
  | none => none
  | some (some (.ref _)) => none
  | some _ => some (ρ.set i (some (.dct ks)))
  else none
def sAsgK (i : Nat) (fa : Rho → O (List (List Int))) : Rho → OS := fun ρ => (fa ρ).run fun ks ρ1 => match dctN i ks ρ1 with
  | some ρ2 => .nx ρ2
  | none => .no
theorem EnvOk.dctN {ρ ρ' : Rho} {i : Nat} {ks : List (List Int)} {p : Addr} (E : EnvOk B S ρ σ H G) (h : Rf.dctN i ks ρ = some ρ') (hp : H p = some (dkOf ks)) (hg : G p = none) (hw : S.W p) : EnvOk B S ρ' (σ.set i (some (.ref p))) H G := by
  unfold Rf.dctN at h
  split at h
  rotate_left
  · cases h
  rename_i nd
  split at h
  · cases h
  · cases h
  · rename_i c n h1
    cases h
    have nr : ∀ l, ρ[i]? ≠ some (some (.ref l)) := fun l z => by
      rw [h1] at z
      exact n l (Option.some.inj z)
    have E1 := E.drop (i := i) (x := some (.ref p)) nr
    have hl : i < ρ.length := (List.getElem?_eq_some_iff.mp h1).1
    have nh : ∀ {j : Nat} {l : List Rf.D}, Hd (ρ.set i (some (.dct ks))) j l → Hd (ρ.set i none) j l := fun {j l} h => by
      obtain ⟨q, z⟩ := h.of_set fun m => ⟨(fun z => nomatch z), (fun z => nomatch z)⟩
      rcases z with z | z
      · exact .inl (by rw [List.getElem?_set_ne q]; exact z)
      · exact .inr (by rw [List.getElem?_set_ne q]; exact z)
    exact {
      sub := E1.sub
      nt := E1.nt
      sz := E1.sz
      j := E1.j
      keep := E1.keep
      there := E1.there
      gsub := E1.gsub
      gnew := E1.gnew
      len := by have := E1.len; rw [List.length_set] at this ⊢; exact this
      dat := fun j d h => by
        rcases get_set h with ⟨_, z⟩ | ⟨q, z⟩
        · cases z
        · exact E1.dat j d (by rw [List.getElem?_set_ne q]; exact z)
      dct := fun j ks' h => by
        rcases get_set h with ⟨q, z⟩ | ⟨q, z⟩
        · subst q; cases z
          exact ⟨p, List.getElem?_set_self (by rw [← E.len]; exact hl), hp, hg, hw⟩
        · exact E1.dct j ks' (by rw [List.getElem?_set_ne q]; exact z)
      raw := fun j v h => by
        rcases get_set h with ⟨_, z⟩ | ⟨q, z⟩
        · cases z
        · exact E1.raw j v (by rw [List.getElem?_set_ne q]; exact z)
      rel := fun j k d h => by
        rcases get_set h with ⟨_, z⟩ | ⟨q, z⟩
        · cases z
        · exact E1.rel j k d (by rw [List.getElem?_set_ne q]; exact z)
      dnq := fun j k ks1 ks2 h1 h2 => by
        have q : ∀ {j : Nat} {ks' : List (List Int)}, (ρ.set i (some (.dct ks)))[j]? = some (some (C.dct ks')) → j = i := fun {j ks'} h => by
          rcases get_set h with ⟨q, _⟩ | ⟨_, z⟩
          · exact q.symm
          · exact noDct_eq nd z
        rw [q h1, q h2]
      held := fun j l h => E1.held j l (nh h)
      ref := fun j l h => by
        rcases get_set h with ⟨_, z⟩ | ⟨q, z⟩
        · cases z
        · exact E1.ref j l (by rw [List.getElem?_set_ne q]; exact z)
      sep := fun j k l m hjk h1 h2 => E1.sep j k l m hjk (nh h1) (nh h2)
      isref := fun j l h => by
        obtain ⟨l', h'⟩ := E1.isref j l h
        rcases get_set h' with ⟨_, z⟩ | ⟨q, z⟩
        · cases z
        · exact ⟨l', by rw [List.getElem?_set_ne q]; exact z⟩ }
theorem q_asgK {i : Nat} {x : Str} {e : Expr} {px pos : Pos} {fa : Rho → O (List (List Int))} (hN : X.N.Nodup) (hi : X.N[i]? = some x) (hx : Loc X.env.scope x) (hf : X.fn x = true ∨ X.env.scope.names.lookup x = some .local) (he : PE X e (tEk B Wx fa))
    (hs : swapsWith e (some (.Name x px)) pos.line X.env = pure false) : PS X (.Assign [.Name x px] e pos) (tSt B Wx (sAsgK i fa)) :=
  (ps_set hN hi hx he hs hf).imp' fun D σ H ⟨S, ρ, G, E, P⟩ => by
    refine ⟨S, ρ, G, E, P.run.imp fun ks ρ1 H1 G1 E1 le1 q p h1 h2 h3 => ?_⟩
    cases e : Rf.dctN i ks ρ1 with
    | none => rw [e] at q; exact False.elim q
    | some ρ2 =>
      rw [e] at q
      exact q _ H1 G1 (E1.dctN e h1 h2 h3) Le.refl
/-- name = [comprehension] on one line -/
theorem tLc_asg {t : Tg} {vs : List Nat} {fi : Rho → O (List Rf.D)} {fc fe : Rho → O Rf.D} {i : Nat} {D : Ends} (Wy Wz : WX) (ht : ∀ i ∈ t.slots, i ∈ vs) (h : tSt B Wx (sAsg (.nm i) fun ρ => (sLc t vs fi fc fe ρ).bind fun l ρ1 => .ok (.list l) ρ1) D σ H) :
    tAsg (tLc (tIt B Wx fi) (tTg B t) (tEt B Wy fc) (tEv B Wz fe) vs) (gName i) D σ H := by
  obtain ⟨S, ρ, G, E, P⟩ := h
  refine lc_read ht (Q := fun x H1 => gName i x σ H1 D.nx) ⟨S, ρ, G, E, ?_⟩ Wy Wz
  have P1 := (P.run (σ := σ)).bind
  refine P1.imp fun l ρ1 H1 G1 E1 le1 q p us h1 h2 h3 h4 h5 h6 => ?_
  have E2 := E1.freeze h1 h2 h3 h4 h5
  have q2 := q H1 (upd G1 p (.lst us)) E2 (Le.upd h2)
  dsimp only at q2
  cases e : bindT (.nm i) (.list l) ρ1 with
  | none => rw [e] at q2; exact False.elim q2
  | some ρ2 =>
    rw [e] at q2
    exact q2 _ H1 _ (E2.bindN e (.lst (SqL.of upd_same) (DpAll.up (Le.upd h2) h6))) Le.refl
theorem tLc_asgO {t : Tg} {vs : List Nat} {fi : Rho → O (List Rf.D)} {fc fe : Rho → O Rf.D} {i : Nat} {D : Ends} (Wy Wz : WX) (ht : ∀ i ∈ t.slots, i ∈ vs) (h : tSt B Wx (sAsgO i (sLc t vs fi fc fe)) D σ H) :
    tAsg (tLc (tIt B Wx fi) (tTg B t) (tEt B Wy fc) (tEv B Wz fe) vs) (gName i) D σ H := by
  obtain ⟨S, ρ, G, E, P⟩ := h
  refine lc_read ht (Q := fun x H1 => gName i x σ H1 D.nx) ⟨S, ρ, G, E, ?_⟩ Wy Wz
  refine (P.run (σ := σ)).imp fun l ρ1 H1 G1 E1 le1 q p us h1 h2 h3 h4 h5 h6 => ?_
  cases e : Rf.ownN i l ρ1 with
  | none => rw [e] at q; exact False.elim q
  | some ρ2 =>
    rw [e] at q
    exact q _ H1 G1 (E1.ownN e h1 h2 h3 h4 h5 h6) Le.refl
/-- x, y = a, b, stored from the right -/
def sPar (i j : Nat) (fa : Rho → O (List Rf.D)) : Rho → OS := fun ρ => (fa ρ).run fun ds ρ1 => match ds with
  | [d, e] => match (bindN i d ρ1).bind (bindN j e) with
    | some ρ2 => .nx ρ2
    | none => .no
  | _ => .no
theorem q_par {i j : Nat} {x y : Str} {a b : Expr} {px py pt : Pos} {kt k2 : Nat} {pt2 pos : Pos} {fa : Rho → O (List Rf.D)} (hc : X.calm = true) (hN : X.N.Nodup) (hi : X.N[i]? = some x) (hj : X.N[j]? = some y) (hij : i ≠ j)
    (hx : X.env.scope.names.lookup x = some .local) (hy : X.env.scope.names.lookup y = some .local) (ha : PA X [a, b] (tEs B Wx fa))
    (hw : swappedStores [.Tuple [.Name x px, .Name y py] kt pt] (.Tuple [a, b] k2 pt2) X.env = pure (some [x, y]))
    (hs : swapsWithSole [.Tuple [.Name x px, .Name y py] kt pt] (.Tuple [a, b] k2 pt2) pos.line X.env = pure false) :
    PS X (.Assign [.Tuple [.Name x px, .Name y py] kt pt] (.Tuple [a, b] k2 pt2) pos) (tSt B Wx (sPar i j fa)) :=
  (ps_par hc hN hi hj hij hx hy ha hw hs).imp' fun D σ H ⟨S, ρ, G, E, P⟩ => by
    refine ⟨S, ρ, G, E, P.run.imp fun ds ρ1 H1 G1 E1 le1 q vs hvs => ?_⟩
    split at q
    · rename_i d e
      obtain ⟨v, w, rfl, hv, hw⟩ := all2 hvs
      cases e1 : bindN i d ρ1 with
      | none => rw [e1] at q; exact False.elim q
      | some ρ2 =>
        rw [e1] at q
        have q : PostS B S Wx G1 (match bindN j e ρ2 with | some ρ2 => .nx ρ2 | none => .no) D := q
        cases e2 : bindN j e ρ2 with
        | none => rw [e2] at q; exact False.elim q
        | some ρ3 =>
          rw [e2] at q
          exact ⟨v, w, rfl, q _ H1 G1 ((E1.bindN e1 hv).bindN e2 hw) Le.refl⟩
    · exact False.elim q
/-- x, y = a, a new list -/
def sParO (i j : Nat) (fa : Rho → O Rf.D) (fb : Rho → O (List Rf.D)) : Rho → OS := fun ρ => (fa ρ).run fun d ρ1 => (fb ρ1).run fun l ρ2 => match (ownN j l ρ2).bind (bindN i d) with
  | some ρ3 => .nx ρ3
  | none => .no
theorem q_parO {i j : Nat} {x y : Str} {a b : Expr} {px py pt : Pos} {kt k2 : Nat} {pt2 pos : Pos} {fa : Rho → O Rf.D} {fb : Rho → O (List Rf.D)} (hc : X.calm = true) (hN : X.N.Nodup) (hi : X.N[i]? = some x) (hj : X.N[j]? = some y) (hij : i ≠ j)
    (hx : X.env.scope.names.lookup x = some .local) (hy : X.env.scope.names.lookup y = some .local) (ha : PE X a (tEv B Wx fa)) (hb : PE X b (tEo B Wx fb)) (hsa : starEach [a, b] X.env = (false, eval a X.env) :: starEach [b] X.env) (hsb : starEach [b] X.env = (false, eval b X.env) :: starEach [] X.env)
    (hw : swappedStores [.Tuple [.Name x px, .Name y py] kt pt] (.Tuple [a, b] k2 pt2) X.env = pure (some [x, y]))
    (hs : swapsWithSole [.Tuple [.Name x px, .Name y py] kt pt] (.Tuple [a, b] k2 pt2) pos.line X.env = pure false) :
    PS X (.Assign [.Tuple [.Name x px, .Name y py] kt pt] (.Tuple [a, b] k2 pt2) pos) (tSt B Wx (sParO i j fa fb)) :=
  (ps_par hc hN hi hj hij hx hy (pa_cons ha (pa_cons hb pa_nil hsb) hsa) hw hs).imp' fun D σ H ⟨S, ρ, G, E, P⟩ => by
    refine ⟨S, ρ, G, E, P.run.imp fun d ρ1 H1 G1 E1 le1 q v hv => ?_⟩
    refine ⟨S, ρ1, G1, E1, q.run.imp fun l ρ2 H2 G2 E2 le2 q2 p us h1 h2 h3 h4 h5 h6 => ?_⟩
    cases e1 : Rf.ownN j l ρ2 with
    | none => rw [e1] at q2; exact False.elim q2
    | some ρ3 =>
      rw [e1] at q2
      have q2 : PostS B S Wx G2 (match bindN i d ρ3 with | some ρ3 => .nx ρ3 | none => .no) D := q2
      cases e2 : Rf.bindN i d ρ3 with
      | none => rw [e2] at q2; exact False.elim q2
      | some ρ4 =>
        rw [e2] at q2
        refine ⟨v, .ref p, rfl, ?_⟩
        have E3 := (E2.ownN e1 h1 h2 h3 h4 h5 h6).bindN e2 (Dp.up le2 hv)
        rw [List.set_comm _ _ (Ne.symm hij)] at E3
        exact q2 _ H2 G2 E3 Le.refl
/-- name[i] = e, of a list that the slot holds -/
def sItem (i : Nat) (fi fe : Rho → O Rf.D) : Rho → OS := fun ρ => (fe ρ).run fun d ρ1 => match heldAt ρ1 i with
  | none => .no
  | some _ => (fi ρ1).run fun k ρ2 => match heldAt ρ2 i, k with
    | some l, .int n => match ixN l.length n with
      | some j => .nx (setL ρ2 i (l.set j d))
      | none => .no
    | _, _ => .no
theorem q_item {i : Nat} {x : Str} {ei e : Expr} {px ps pos : Pos} {fi fe : Rho → O Rf.D} (hN : X.N[i]? = some x) (hv : Vis X.env.scope x) (hd : (x == ("__debug__" : Str)) = false) (hcd : (x == ("__classdict__" : Str)) = false) (hi : PE X ei (tEv B Wx fi)) (he : PE X e (tEv B Wx fe))
    (ha : ∀ v, assign (.Subscript (.Name x px) ei ps) X.env v = (do
      let ov ← holding [v] (eval (.Name x px) X.env)
      let iv ← holding [v, ov] (eval ei X.env)
      standAt ps
      holding [v, ov, iv] (setItem ov iv v)
      release [v, ov, iv] []))
    (hs : swapsWithSole [.Subscript (.Name x px) ei ps] e pos.line X.env = pure false) (hw : swappedStores [.Subscript (.Name x px) ei ps] e X.env = pure none)
    (h1 : (assignEach [.Subscript (.Name x px) ei ps] X.env).map (·.2) = [assign (.Subscript (.Name x px) ei ps) X.env]) : PS X (.Assign [.Subscript (.Name x px) ei ps] e pos) (tSt B Wx (sItem i fi fe)) :=
  (ps_asg he (pg_sub (pe_var hN hv hd hcd) hi set_list ha) hs hw h1).imp' fun D σ H ⟨S, ρ, G, E, P⟩ => by
    refine ⟨S, ρ, G, E, P.run.imp fun d ρ1 H1 G1 E1 le1 q v hv => ?_⟩
    cases hh : heldAt ρ1 i with
    | none => rw [hh] at q; exact False.elim q
    | some l0 =>
      rw [hh] at q
      obtain ⟨a, us, k1, _⟩ := E1.held i l0 (heldAt_hd hh)
      refine ⟨.ref a, k1, S, ρ1, G1, E1, q.run.imp fun k ρ2 H2 G2 E2 le2 q2 w hw => ?_⟩
      split at q2
      · rename_i l n hl
        cases e1 : ixN l.length n with
        | none => rw [e1] at q2; exact False.elim q2
        | some j =>
          rw [e1] at q2
          have hl' := heldAt_hd hl
          obtain ⟨a', ws, m1, m2, m3, m4, m5, m6⟩ := E2.held i l hl'
          rw [k1] at m1; cases m1
          refine ⟨a, ws, n, j, rfl, dint hw, m2, by rw [m4.length]; exact e1, ?_⟩
          refine q2 _ _ G2 (E2.relist (vs' := ws.set j v) hl' k1 (fun b o e n t => by rw [upd_ne n]; exact e) (fun b e => ?_) Le.refl (fun b o e => .inl e) (fun b o e => ?_) E2.nt E2.sz ?_ upd_same (by rw [List.length_set]; exact m6) (m4.set j (Dp.up le2 hv))) Le.refl
          · by_cases q : b = a
            · rw [q, upd_same] at e; cases e
            · rw [upd_ne q] at e; exact e
          · rw [upd_ne (ne_of_none e m3)]; exact E2.sub b o e
          · exact B.js H2 _ E2.j fun b o e n _ => by
              rw [upd_ne]
              · exact e
              · intro z; rw [z, m2] at e; exact n ws (Option.some.inj e).symm
      · exact False.elim q2
/-- name.append(e) -/
def sApp (i : Nat) (fe : Rho → O Rf.D) : Rho → OS := fun ρ => match heldAt ρ i with
  | none => .no
  | some _ => (fe ρ).run fun d ρ1 => match heldAt ρ1 i with
    | some l => if l.length < 16777216 then .nx (setL ρ1 i (l ++ [d])) else .no
    | none => .no
theorem q_app {i : Nat} {x : Str} {e : Expr} {px apos cpos pos : Pos} {fe : Rho → O Rf.D} (hN : X.N[i]? = some x) (hv : Vis X.env.scope x) (hd : (x == ("__debug__" : Str)) = false) (hcd : (x == ("__classdict__" : Str)) = false) (he : PE X e (tEv B Wx fe))
    (hs : starEach [e] X.env = (false, eval e X.env) :: starEach [] X.env)
    (hfew : ((backTo cpos (starEach [e] X.env)).all (fun x => !x.1) && (backToKw cpos (keywordEach [] X.env)).all (fun x => x.1.isSome) && decide ([e].length + ([] : List Keyword).length + (if ([] : List Keyword).isEmpty then 0 else 1) < 30)) = true)
    (hline : (apos.endLine == cpos.line) = true) (hsw : swapsWith (.Call (.Attribute (.Name x px) "append" apos) [e] [] cpos) none pos.line X.env = pure false) :
    PS X (.Expr (.Call (.Attribute (.Name x px) "append" apos) [e] [] cpos) pos) (tSt B Wx (sApp i fe)) :=
  (ps_expr (pe_bm PySem.F.plainAttrs_list PySem.F.slot_list_append PySem.F.type_list_append mt_append (pe_var hN hv hd hcd) (pa_cons he pa_nil hs) (by rfl) hfew hline hs (by rfl)) hsw).imp' fun D σ H ⟨S, ρ, G, E, P⟩ => by
    unfold sApp at P
    cases hh : heldAt ρ i with
    | none => rw [hh] at P; exact False.elim P
    | some l0 =>
      rw [hh] at P
      obtain ⟨a, us, k1, k2, _⟩ := E.held i l0 (heldAt_hd hh)
      refine ⟨.ref a, k1, .inl ⟨rfl, us, SqL.of k2⟩, S, ρ, G, E, P.run.imp fun d ρ1 H1 G1 E1 le1 q v hv => ?_⟩
      cases h2 : heldAt ρ1 i with
      | none => rw [h2] at q; exact False.elim q
      | some l =>
        rw [h2] at q
        dsimp only at q
        split at q
        · rename_i hlen
          have hl' := heldAt_hd h2
          obtain ⟨a', ws, m1, m2, m3, m4, m5, m6⟩ := E1.held i l hl'
          rw [k1] at m1; cases m1
          have hlt : ws.length < sizeLine := by rw [line_eq, m4.length]; exact hlen
          refine ⟨a, ws, v, rfl, rfl, m2, hlt, ?_⟩
          refine q _ _ G1 (E1.relist (vs' := ws ++ [v]) hl' k1 (fun b o e n t => by rw [upd_ne n]; exact e) (fun b e => ?_) Le.refl (fun b o e => .inl e) (fun b o e => ?_) E1.nt E1.sz ?_ upd_same (by rw [List.length_append]; exact hlt) (m4.append (.cons hv .nil))) Le.refl
          · by_cases q : b = a
            · rw [q, upd_same] at e; cases e
            · rw [upd_ne q] at e; exact e
          · rw [upd_ne (ne_of_none e m3)]; exact E1.sub b o e
          · exact B.js H1 _ E1.j fun b o e n _ => by
              rw [upd_ne]
              · exact e
              · intro z; rw [z, m2] at e; exact n ws (Option.some.inj e).symm
        · exact False.elim q
/-! ### loops -/
def forGo (t : Tg) (f : Rho → OS) : List Rf.D → Rho → OS
  | [], ρ => .nx ρ
  | x :: xs, ρ => match bindT t x ρ with
    | none => .no
    | some ρ1 => (f ρ1).bind (forGo t f xs)
def sFor (t : Tg) (fi : Rho → O (List Rf.D)) (f : Rho → OS) : Rho → OS := fun ρ => (fi ρ).run fun xs ρ1 => forGo t f xs ρ1
theorem q_for {tg iter : Expr} {body : List Stmt} {t : Tg} {pos : Pos} {fi : Rho → O (List Rf.D)} {f : Rho → OS} (hp : PassesOwn (model X.prog X.w) X.A X.env X.xe) (hc : X.calm = true) (hi : PI X tg iter (tIt B Wx fi)) (hg : PG X tg (tTg B t)) (hb : PSs X body (tSt B Wx f)) (hfs : ∀ x, foldedSetIterable iter X.env x = pure x) :
    PS X (.For tg iter body [] pos) (tSt B Wx (sFor t fi f)) :=
  (ps_for hp hc hi hg hb hfs).imp' fun D σ H ⟨S, ρ, G, E, P⟩ => by
    refine ⟨S, ρ, G, E, P.run.imp fun xs ρ1 H1 G1 E1 le1 q hxs J FJ => ?_⟩
    refine ⟨fun i m σ H => m = xs.length - i ∧ i ≤ xs.length ∧ ∃ ρi Gi, EnvOk B S ρi σ H Gi ∧ Le G1 Gi ∧ PostS B S Wx Gi (forGo t f (xs.drop i) ρi) D, ⟨_, rfl, Nat.zero_le _, ρ1, G1, E1, Le.refl, q⟩, ?_⟩
    rintro i m σi Hi ⟨rfl, hi, ρi, Gi, Ei, lei, qi⟩
    obtain ⟨fgo, fstop⟩ := FJ S ρi σi Hi Gi Ei lei
    by_cases hlt : i < xs.length
    · refine .inr ?_
      obtain ⟨x, hx⟩ : ∃ x, xs[i]? = some x := ⟨xs[i], by simp [hlt]⟩
      have hdrop : xs.drop i = x :: xs.drop (i + 1) := by
        rw [List.drop_eq_getElem_cons hlt]
        have : xs[i] = x := by
          have := List.getElem?_eq_getElem hlt
          rw [this] at hx; exact Option.some.inj hx
        rw [this]
      obtain ⟨go1, go2⟩ := fgo i x hx
      rw [hdrop] at qi
      unfold forGo at qi
      refine ⟨go1, fun σ' H' => (xs.length - (i + 1)) = xs.length - (i + 1) ∧ i + 1 ≤ xs.length ∧ ∃ ρi Gi, EnvOk B S ρi σ' H' Gi ∧ Le G1 Gi ∧ PostS B S Wx Gi (forGo t f (xs.drop (i + 1)) ρi) D, fun σ' H' w => ⟨_, by omega, w⟩, fun xv H' hy => ?_⟩
      obtain ⟨G2, E2, le2, dp2⟩ := go2 xv H' hy
      cases eb : bindT t x ρi with
      | none => rw [eb] at qi; exact False.elim qi
      | some ρ3 =>
        rw [eb] at qi
        refine ⟨S, ρi, G2, x, ρ3, E2, dp2, eb, fun σ3 E3 off => ⟨S, ρ3, G2, E3, ?_⟩⟩
        have qb := PostS.le qi.bind le2
        cases ef : f ρ3 with
        | nx ρ4 =>
          rw [ef] at qb
          intro σ4 H4 G4 E4 le4
          refine ⟨rfl, hlt, ρ4, G4, E4, lei.trans (le2.trans le4), ?_⟩
          have z : PostS B S Wx Gi (forGo t f (xs.drop (i + 1)) ρ4) D := by
            have z := qi
            dsimp only at z
            rw [ef] at z; exact z
          exact z.le (le2.trans le4)
        | ret d ρ4 => rw [ef] at qb; exact qb
        | retO d ρ4 => rw [ef] at qb; exact qb
        | retK d ρ4 => rw [ef] at qb; exact qb
        | retV k d ρ4 => rw [ef] at qb; exact qb
        | ex e ρ4 => rw [ef] at qb; exact qb
        | no => rw [ef] at qb; exact qb
    · have e : i = xs.length := by omega
      subst e
      rw [List.drop_length] at qi
      exact .inl ⟨fstop, qi σi Hi Gi Ei Le.refl⟩
def whileGo (fc : Rho → O Rf.D) (f : Rho → OS) : Nat → Rho → OS
  | 0, _ => .no
  | n + 1, ρ => (fc ρ).run fun c ρ1 => match c with
    | .bool true => (f ρ1).bind (whileGo fc f n)
    | .bool false => .nx ρ1
    | _ => .no
def sWhile (fuel : Rho → Nat) (fc : Rho → O Rf.D) (f : Rho → OS) : Rho → OS := fun ρ => whileGo fc f (fuel ρ) ρ
theorem q_while {c : Expr} {body : List Stmt} {pos : Pos} {fuel : Rho → Nat} {fc : Rho → O Rf.D} {f : Rho → OS} (hp : PassesOwn (model X.prog X.w) X.A X.env X.xe) (hc : PT X c (tEt B Wx fc)) (hb : PSs X body (tSt B Wx f)) :
    PS X (.While c body [] pos) (tSt B Wx (sWhile fuel fc f)) :=
  (ps_while hp hc hb).imp' fun D σ H ⟨S, ρ, G, E, P⟩ => by
    refine ⟨fun m σ H => ∃ ρ G, EnvOk B S ρ σ H G ∧ PostS B S Wx G (whileGo fc f m ρ) D, ⟨_, ρ, G, E, P⟩, ?_⟩
    rintro m σ1 H1 ⟨ρ1, G1, E1, q1⟩
    cases m with
    | zero => exact False.elim q1
    | succ n =>
      unfold whileGo at q1
      refine ⟨S, ρ1, G1, E1, q1.run.imp fun c ρ2 H2 G2 E2 le2 q2 => ?_⟩
      split at q2
      · refine ⟨true, rfl, ifT ⟨fun σ' H' => ∃ ρ G, EnvOk B S ρ σ' H' G ∧ PostS B S Wx G (whileGo fc f n ρ) D, fun σ' H' w => ⟨n, Nat.lt_succ_self n, w⟩, S, ρ2, G2, E2, ?_⟩⟩
        have qb := q2.bind
        cases ef : f ρ2 with
        | nx ρ4 =>
          intro σ4 H4 G4 E4 le4
          refine ⟨ρ4, G4, E4, ?_⟩
          have z : PostS B S Wx G2 (whileGo fc f n ρ4) D := by rw [ef] at q2; exact q2
          exact z.le le4
        | ret d ρ4 => rw [ef] at qb; exact qb
        | retO d ρ4 => rw [ef] at qb; exact qb
        | retK d ρ4 => rw [ef] at qb; exact qb
        | retV k d ρ4 => rw [ef] at qb; exact qb
        | ex e ρ4 => rw [ef] at qb; exact qb
        | no => rw [ef] at qb; exact qb
      · exact ⟨false, rfl, ifF (q2 σ1 H2 G2 E2 Le.refl)⟩
      · exact False.elim q2
end
end Rf

set_option maxRecDepth 100000
set_option maxHeartbeats 4000000
namespace Rf
open PySem PySem.Spec PyProof.Rows L2
/-! ### a def of data; a def whose first argument is lent -/
inductive FD where | ret (d : D) | retO (l : List D) | retK (ks : List (List Int)) | retV (k : Nat) (d : D) | exc (e : Exc) | no
inductive FL where | ret (d : D) (l : List D) | exc (e : Exc) (l : List D) | no
def datsOf : List C → Option (List D)
  | [] => some []
  | .dat d :: r => (datsOf r).map (d :: ·)
  | _ :: _ => none
theorem datsOf_dats : ∀ ds : List D, datsOf (ds.map C.dat) = some ds
  | [] => rfl
  | d :: ds => by rw [List.map_cons]; unfold datsOf; rw [datsOf_dats ds]; rfl
theorem datsOf_eq : ∀ {cs : List C} {ds : List D}, datsOf cs = some ds → cs = ds.map C.dat
  | [], ds, h => by cases h; rfl
  | .dat d :: r, ds, h => by
    unfold datsOf at h
    cases q : datsOf r with
    | none => rw [q] at h; cases h
    | some es => rw [q] at h; cases h; rw [List.map_cons, datsOf_eq q]
  | .own _ :: _, _, h => by cases h
  | .ref _ :: _, _, h => by cases h
  | .dct _ :: _, _, h => by cases h
def mD (f : List D → FD) : FSem := fun cs => match datsOf cs with
  | some ds => match f ds with
    | .ret d => .ret d cs
    | .retO l => .retO l cs
    | .retK l => .retK l cs
    | .retV k l => .retV k l cs
    | .exc e => .exc e cs
    | .no => .no
  | none => .no
def mR (f : List D → List D → FL) : FSem := fun cs => match cs with
  | .ref l :: r => match datsOf r with
    | some ds => match f l ds with
      | .ret d l' => .ret d (.ref l' :: r)
      | .exc e l' => .exc e (.ref l' :: r)
      | .no => .no
    | none => .no
  | _ => .no
def start0 (n : Nat) (cs : List C) : Rho := argsR cs ++ List.replicate (n - cs.length) none
def runD (np n : Nat) (fn : Rho → OS) : List D → FD := fun ds => if ds.length = np then match fn (start0 n (ds.map .dat)) with
    | .nx _ => .ret .none
    | .ret d _ => .ret d
    | .retO l _ => .retO l
    | .retK l _ => .retK l
    | .retV k l _ => .retV k l
    | .ex e _ => .exc e
    | .no => .no
  else .no
def refC : Option (Option C) → Option (List D)
  | some (some (.ref l)) => some l
  | _ => none
def refAt0 (ρ : Rho) : Option (List D) := refC ρ[0]?
def runR (np n : Nat) (fn : Rho → OS) : List D → List D → FL := fun l ds => if ds.length + 1 = np then match fn (start0 n (.ref l :: ds.map .dat)) with
    | .nx ρ => match refAt0 ρ with | some l' => .ret .none l' | none => .no
    | .ret d ρ => match refAt0 ρ with | some l' => .ret d l' | none => .no
    | .retO _ _ => .no
    | .retK _ _ => .no
    | .retV _ _ _ => .no
    | .ex e ρ => match refAt0 ρ with | some l' => .exc e l' | none => .no
    | .no => .no
  else .no
section
variable {B : Bs}
theorem start_get {N : List Str} {vs : List V} {i : Nat} {v : V} (h : vs[i]? = some v) : (L2.start N vs)[i]? = some (some v) := by
  unfold L2.start
  have hl : i < vs.length := (List.getElem?_eq_some_iff.mp h).1
  rw [List.getElem?_append_left (by rw [List.length_map]; exact hl), List.getElem?_map, h]; rfl
theorem start_inv {N : List Str} {vs : List V} {i : Nat} {v : V} (h : (L2.start N vs)[i]? = some (some v)) : vs[i]? = some v := by
  unfold L2.start at h
  by_cases hl : i < vs.length
  · rw [List.getElem?_append_left (by rw [List.length_map]; exact hl), List.getElem?_map] at h
    cases e : vs[i]? with
    | none => rw [e] at h; cases h
    | some c => rw [e] at h; cases h; rfl
  · rw [List.getElem?_append_right (by rw [List.length_map]; omega), List.getElem?_replicate] at h
    split at h <;> cases h
theorem start0_get {n : Nat} {cs : List C} {i : Nat} {c : C} (h : cs[i]? = some c) : (start0 n cs)[i]? = some (some c) := by
  unfold start0 argsR
  have hl : i < cs.length := (List.getElem?_eq_some_iff.mp h).1
  rw [List.getElem?_append_left (by rw [List.length_map]; exact hl), List.getElem?_map, h]; rfl
theorem start0_inv {n : Nat} {cs : List C} {i : Nat} {c : C} (h : (start0 n cs)[i]? = some (some c)) : cs[i]? = some c := by
  unfold start0 argsR at h
  by_cases hl : i < cs.length
  · rw [List.getElem?_append_left (by rw [List.length_map]; exact hl), List.getElem?_map] at h
    cases e : cs[i]? with
    | none => rw [e] at h; cases h
    | some c => rw [e] at h; cases h; rfl
  · rw [List.getElem?_append_right (by rw [List.length_map]; omega), List.getElem?_replicate] at h
    split at h <;> cases h
theorem args_get {cs : List C} {i : Nat} {c : C} (h : cs[i]? = some c) : (argsR cs)[i]? = some (some c) := by
  unfold argsR; rw [List.getElem?_map, h]; rfl
theorem argsS_of {vs : List V} {i : Nat} {v : V} (h : vs[i]? = some v) : (argsS vs)[i]? = some (some v) := by
  unfold argsS; rw [List.getElem?_map, h]; rfl
theorem Hd_start {n : Nat} {cs : List C} {i : Nat} {l : List D} (h : Hd (start0 n cs) i l) : Hd (argsR cs) i l := by
  rcases h with h | h
  · exact .inl (args_get (start0_inv h))
  · exact .inr (args_get (start0_inv h))
theorem Hd_args {n : Nat} {cs : List C} {i : Nat} {l : List D} (h : Hd (argsR cs) i l) : Hd (start0 n cs) i l := by
  rcases h with h | h
  · exact .inl (start0_get (argsR_ref h))
  · exact .inr (start0_get (argsR_ref h))
/-- the arguments' environment, with the def's other slots -/
theorem EnvOk.widen {cs : List C} {vs : List V} {N : List Str} {H G : Hp} (E : EnvOk B (Rf.reb (argsR cs) (argsS vs) H G) (argsR cs) (argsS vs) H G) (hn : cs.length ≤ N.length) :
    EnvOk B (Rf.reb (start0 N.length cs) (L2.start N vs) H G) (start0 N.length cs) (L2.start N vs) H G := by
  have hl : cs.length = vs.length := by have := E.len; unfold argsR argsS at this; rw [List.length_map, List.length_map] at this; exact this
  exact {
    sub := E.sub
    nt := E.nt
    sz := E.sz
    j := E.j
    keep := fun b o e _ _ => e
    there := fun b e => e
    gsub := fun b o e => e
    gnew := fun b o e => .inl e
    len := by
      unfold start0 L2.start argsR
      rw [List.length_append, List.length_append, List.length_map, List.length_map, List.length_replicate, List.length_replicate, hl]
    dat := fun i d h => by
      obtain ⟨v, h1, h2⟩ := E.dat i d (args_get (start0_inv h))
      exact ⟨v, start_get (argsS_get h1), h2⟩
    dct := fun i ks h => by
      obtain ⟨a, h1, h2, h3, _⟩ := E.dct i ks (args_get (start0_inv h))
      exact ⟨a, start_get (argsS_get h1), h2, h3, .inr (.inr ⟨i, ks, h, start_get (argsS_get h1)⟩)⟩
    raw := fun i v h => start_get (argsS_get (E.raw i v (args_get (start0_inv h))))
    rel := fun i k d h => by
      obtain ⟨v, h1, h2⟩ := E.rel i k d (args_get (start0_inv h))
      exact ⟨v, start_get (argsS_get h1), h2⟩
    dnq := fun i j ks ks' h1 h2 => E.dnq i j ks ks' (args_get (start0_inv h1)) (args_get (start0_inv h2))
    held := fun i l h => by
      obtain ⟨a, us, h1, h2, h3, h4, _, h6⟩ := E.held i l (Hd_start h)
      have h1' := start_get (N := N) (argsS_get h1)
      exact ⟨a, us, h1', h2, h3, h4, .inr (.inl ⟨i, l, h, h1'⟩), h6⟩
    ref := fun i l h => ⟨rfl, l, h⟩
    sep := fun i j l m hij h1 h2 => by
      have := E.sep i j l m hij (Hd_start h1) (Hd_start h2)
      obtain ⟨a, _, k1, _⟩ := E.held i l (Hd_start h1)
      obtain ⟨b, _, k2, _⟩ := E.held j m (Hd_start h2)
      rw [start_get (argsS_get k1), start_get (argsS_get k2)]
      rw [k1, k2] at this
      exact this
    isref := fun i l h => ⟨l, h⟩ }
/-- what is left of it behind the def: cs' the arguments as they are then -/
theorem EnvOk.narrow {cs cs' : List C} {vs : List V} {N : List Str} {ρ' : Rho} {σ' : St} {H G H' G' : Hp} (E0 : EnvOk B (Rf.reb (argsR cs) (argsS vs) H G) (argsR cs) (argsS vs) H G) (no : ∀ (i : Nat) l, cs[i]? ≠ some (C.own l)) (hn : cs.length ≤ N.length)
    (E : EnvOk B (Rf.reb (start0 N.length cs) (L2.start N vs) H G) ρ' σ' H' G') (hl' : cs'.length = cs.length) (hd : ∀ (i : Nat) d, cs'[i]? = some (C.dat d) → cs[i]? = some (C.dat d)) (no' : ∀ (i : Nat) l, cs'[i]? ≠ some (C.own l)) (nk' : ∀ (i : Nat) ks, cs'[i]? ≠ some (C.dct ks)) (hw : ∀ (i : Nat) v, cs'[i]? = some (C.raw v) → cs[i]? = some (C.raw v)) (hq : ∀ (i k : Nat) d, cs'[i]? = some (C.rel k d) → cs[i]? = some (C.rel k d))
    (hr : ∀ (i : Nat) l, cs'[i]? = some (C.ref l) → (∃ l0, cs[i]? = some (C.ref l0)) ∧ ρ'[i]? = some (some (.ref l))) (hr' : ∀ (i : Nat) l, cs[i]? = some (C.ref l) → ∃ l', cs'[i]? = some (C.ref l')) :
    EnvOk B (Rf.reb (argsR cs) (argsS vs) H G) (argsR cs') (argsS vs) H' G' := by
  have hl : cs.length = vs.length := by have := E0.len; unfold argsR argsS at this; rw [List.length_map, List.length_map] at this; exact this
  have w : ∀ a, (Rf.reb (start0 N.length cs) (L2.start N vs) H G).W a → (Rf.reb (argsR cs) (argsS vs) H G).W a := fun a h => by
    rcases h with h | ⟨i, l, h, h1⟩ | ⟨i, ks, h, h1⟩
    · exact .inl h
    · exact .inr (.inl ⟨i, l, Hd_start h, argsS_of (start_inv h1)⟩)
    · exact .inr (.inr ⟨i, ks, args_get (start0_inv h), argsS_of (start_inv h1)⟩)
  have hh : ∀ {i : Nat} {l : List D}, Hd (argsR cs') i l → cs'[i]? = some (C.ref l) := fun {i l} h => by
    rcases h with h | h
    · exact absurd (argsR_ref h) (no' i l)
    · exact argsR_ref h
  have hs : ∀ {i : Nat} {l : List D}, Hd (argsR cs') i l → ∃ a, σ'[i]? = some (some (.ref a)) ∧ (argsS vs)[i]? = some (some (.ref a)) := fun {i l} h => by
    obtain ⟨⟨l0, h0⟩, h1⟩ := hr i l (hh h)
    obtain ⟨k1, _⟩ := E.ref i l h1
    obtain ⟨a, us, m1, _⟩ := E0.held i l0 (.inr (args_get h0))
    refine ⟨a, ?_, m1⟩
    rw [k1]; exact start_get (argsS_get m1)
  exact {
    sub := E.sub
    nt := E.nt
    sz := E.sz
    j := E.j
    keep := fun b o e n t => E.keep b o e (fun z => n (w b z)) t
    there := fun b e => E.there b e
    gsub := fun b o e => E.gsub b o e
    gnew := fun b o e => by
      rcases E.gnew b o e with h | h
      · exact .inl h
      · exact .inr (w b h)
    len := by unfold argsR argsS; rw [List.length_map, List.length_map, hl', hl]
    dat := fun i d h => by
      obtain ⟨v, h1, h2⟩ := E0.dat i d (args_get (hd i d (argsR_ref h)))
      exact ⟨v, h1, Dp.up (fun b o e => E.gsub b o e) h2⟩
    dct := fun i ks h => absurd (argsR_ref h) (nk' i ks)
    raw := fun i v h => E0.raw i v (args_get (hw i v (argsR_ref h)))
    rel := fun i k d h => by
      obtain ⟨v, h1, h2⟩ := E0.rel i k d (args_get (hq i k d (argsR_ref h)))
      exact ⟨v, h1, B.rs (fun b o e => E.gsub b o e) h2⟩
    dnq := fun i j ks ks' h _ => absurd (argsR_ref h) (nk' i ks)
    held := fun i l h => by
      obtain ⟨⟨l0, h0⟩, h1⟩ := hr i l (hh h)
      obtain ⟨a, us, m1, m2, m3, m4, m5, m6⟩ := E.held i l (.inr h1)
      obtain ⟨a', k1, k2⟩ := hs h
      rw [m1] at k1; cases k1
      exact ⟨a, us, k2, m2, m3, m4, w a m5, m6⟩
    ref := fun i l h => ⟨rfl, by
      obtain ⟨⟨l0, h0⟩, _⟩ := hr i l (argsR_ref h)
      exact ⟨l0, args_get h0⟩⟩
    sep := fun i j l m hij h1 h2 => by
      obtain ⟨a, k1, k2⟩ := hs h1
      obtain ⟨b, k3, k4⟩ := hs h2
      obtain ⟨_, g1⟩ := hr i l (hh h1)
      obtain ⟨_, g2⟩ := hr j m (hh h2)
      have := E.sep i j l m hij (.inr g1) (.inr g2)
      rw [k1, k3] at this
      rw [k2, k4]; exact this
    isref := fun i l h => by
      obtain ⟨l', h'⟩ := hr' i l (argsR_ref h)
      exact ⟨l', args_get h'⟩ }
section
variable {P : Program} {w : World} {mg : Str → Option Value} {base : Heap}
abbrev wishOf (E : XK) : WX := fun cls d _ H => E cls d H
/-- the def's code object is cdv -/
def CodeAt (K : PySem.W.Frag) (x qual : Str) (st : Stmt) (f : Addr) (fd : FuncData) (cdv : Value) : Prop := ∃ (oc : Value) (od : Option Addr) (kV dc pm : Value) (an : Option Addr) (ct : Value) (osl : Array (Option Value)),
  fd = PySem.W.fnOf x qual (defArgs st) (defBody st) (defScope st) .none kV dc pm an cdv ct ∧ K.lookup f = some ⟨oc, od, .func fd, osl⟩
/-- a def's promise by its body; what it raises bears no context -/
theorem okN {K : PySem.W.Frag} {x qual : Str} {st : Stmt} {f : Addr} {fd : FuncData} {N ps : List Str} {k : Nat} {sp : Sp} (F : Fun K x qual st f fd) (S : FnScope N ps (defScope st)) (len : ∀ vs H Q E, sp vs H Q E → vs.length = ps.length)
    (hbody : ∀ (cdv : Value), CodeAt K x qual st f fd cdv → ∀ (A : Around) (outer : List Env) (s : Shared) (H : Hp) (vs : List V) (Q : VK) (E : XK), Room k (A.deeper (envOfC qual (defScope st) s.heap.objs.size f cdv)) → sp vs H Q E →
      ∃ t, PSs (cxOf (L2N.CX P w) P w K mg base N qual (defScope st) f cdv A outer s H E) (defBody st) t ∧ t { nx := fun _ H' => Q .non H', rt := Q } (L2.start N vs) H) : FnOk P w K mg base (L2N.CX P w) (k + 1) f fd ps sp := by
  obtain ⟨oc, od, kV, dc, pm, an, cdv, ct, osl, rfl, lk, hcd⟩ := F.ex
  exact fn_of lk hcd S len fun A outer s H vs Q E hr hsp => hbody cdv ⟨oc, od, kV, dc, pm, an, ct, osl, rfl, lk⟩ A outer s H vs Q E hr hsp
theorem ok_DC {x qual : Str} {st : Stmt} {f : Addr} {fd : FuncData} {N ps : List Str} {k : Nat} {fn : Rho → OS} (F : Fun B.K x qual st f fd) (S : FnScope N ps (defScope st))
    (hbody : ∀ (cdv : Value), CodeAt B.K x qual st f fd cdv → ∀ (A : Around) (outer : List Env) (s : Shared) (H : Hp) (E : XK), Room k (A.deeper (envOfC qual (defScope st) s.heap.objs.size f cdv)) →
      PSs (cxOf (L2N.CX P w) P w B.K mg base N qual (defScope st) f cdv A outer s H E) (defBody st) (tSt B (wishOf E) fn)) : FnOk P w B.K mg base (L2N.CX P w) (k + 1) f fd ps (spOf B (mD (runD ps.length N.length fn))) := by
  have hps : ps.length ≤ N.length := by have := congrArg List.length S.pre; rw [List.length_take] at this; omega
  have sel : ∀ {cs : List C}, mD (runD ps.length N.length fn) cs ≠ .no → ∃ ds : List D, cs = ds.map C.dat ∧ ds.length = ps.length := fun {cs} h => by
    unfold mD at h
    cases e : datsOf cs with
    | none => rw [e] at h; exact absurd rfl h
    | some ds =>
      rw [e] at h
      refine ⟨ds, datsOf_eq e, ?_⟩
      dsimp only at h
      unfold runD at h
      by_cases q : ds.length = ps.length
      · exact q
      · rw [if_neg q] at h; exact absurd rfl h
  refine okN F S (fun vs H Q E h => ?_) (fun cdv hcd A outer s H vs Q E hr h => ?_)
  · obtain ⟨G, cs, no, nk, E0, h⟩ := h
    have hne : mD (runD ps.length N.length fn) cs ≠ .no := fun z => by rw [z] at h; exact h
    obtain ⟨ds, rfl, hl⟩ := sel hne
    have := E0.len
    unfold argsR argsS at this
    rw [List.length_map, List.length_map, List.length_map] at this
    omega
  · obtain ⟨G, cs, no, nk, E0, h⟩ := h
    have hne : mD (runD ps.length N.length fn) cs ≠ .no := fun z => by rw [z] at h; exact h
    obtain ⟨ds, rfl, hl⟩ := sel hne
    refine ⟨_, hbody cdv hcd A outer s H E hr, ?_⟩
    have hcl : (ds.map C.dat).length ≤ N.length := by rw [List.length_map]; omega
    refine ⟨_, _, G, E0.widen hcl, ?_⟩
    have nar : ∀ {ρ' σ' H' G'}, EnvOk B (Rf.reb (start0 N.length (ds.map C.dat)) (L2.start N vs) H G) ρ' σ' H' G' → EnvOk B (Rf.reb (argsR (ds.map C.dat)) (argsS vs) H G) (argsR (ds.map C.dat)) (argsS vs) H' G' := fun E1 =>
      E0.narrow no hcl E1 rfl (fun i d h => h) no nk (fun i v h => h) (fun i k d h => h) (fun i l h => absurd h (datsNo.1 i l)) (fun i l h => absurd h (datsNo.1 i l))
    unfold mD at h
    rw [datsOf_dats] at h
    dsimp only at h
    unfold runD at h
    rw [if_pos hl] at h
    cases ef : fn (start0 N.length (ds.map C.dat)) with
    | nx ρ' =>
      rw [ef] at h
      exact fun σ' H' G' E1 _ => h .non H' G' (nar E1) .non
    | ret d ρ' =>
      rw [ef] at h
      exact fun σ' H' G' E1 _ v hv => h v H' G' (nar E1) hv
    | retO l ρ' =>
      rw [ef] at h
      intro σ' H' G' E1 _ p us g1 g2 g3 g4 g5 g6
      refine h p us H' G' (nar E1) g1 g2 ?_ g5 g6
      rcases g3 with g3 | ⟨i, m, g3, _⟩ | ⟨i, ks, g3, _⟩
      · exact g3
      · rcases g3 with g3 | g3
        · exact absurd (start0_inv g3) (datsNo.2 i m)
        · exact absurd (start0_inv g3) (datsNo.1 i m)
      · exact absurd (start0_inv g3) (datsK i ks)
    | retK ks0 ρ' =>
      rw [ef] at h
      intro σ' H' G' E1 _ p g1 g2 g3
      refine h p H' G' (nar E1) g1 g2 ?_
      rcases g3 with g3 | ⟨i, m, g3, _⟩ | ⟨i, ks, g3, _⟩
      · exact g3
      · rcases g3 with g3 | g3
        · exact absurd (start0_inv g3) (datsNo.2 i m)
        · exact absurd (start0_inv g3) (datsNo.1 i m)
      · exact absurd (start0_inv g3) (datsK i ks)
    | retV k d ρ' =>
      rw [ef] at h
      exact fun σ' H' G' E1 _ v hv => h v H' G' (nar E1) hv
    | ex e ρ' =>
      rw [ef] at h
      exact fun cls a σ' H' G' E1 _ ex => h cls a H' G' (nar E1) ex
    | no => rw [ef] at h; exact h
theorem ok_D {x qual : Str} {st : Stmt} {f : Addr} {fd : FuncData} {N ps : List Str} {k : Nat} {fn : Rho → OS} (F : Fun B.K x qual st f fd) (S : FnScope N ps (defScope st))
    (hbody : ∀ (cdv : Value) (A : Around) (outer : List Env) (s : Shared) (H : Hp) (E : XK), Room k (A.deeper (envOfC qual (defScope st) s.heap.objs.size f cdv)) →
      PSs (cxOf (L2N.CX P w) P w B.K mg base N qual (defScope st) f cdv A outer s H E) (defBody st) (tSt B (wishOf E) fn)) : FnOk P w B.K mg base (L2N.CX P w) (k + 1) f fd ps (spOf B (mD (runD ps.length N.length fn))) :=
  ok_DC F S fun cdv _ => hbody cdv
theorem good_D {x qual : Str} {st : Stmt} {f : Addr} {fd : FuncData} {N ps : List Str} {k : Nat} {fn : Rho → OS} (F : Fun B.K x qual st f fd) (S : FnScope N ps (defScope st)) (hb : Binds B.K fd ps []) (hm : mg x = some (.ref f))
    (hbody : ∀ (cdv : Value) (A : Around) (outer : List Env) (s : Shared) (H : Hp) (E : XK), Room k (A.deeper (envOfC qual (defScope st) s.heap.objs.size f cdv)) →
      PSs (cxOf (L2N.CX P w) P w B.K mg base N qual (defScope st) f cdv A outer s H E) (defBody st) (tSt B (wishOf E) fn)) : FnGood B P w mg base (k + 1) x ps.length (mD (runD ps.length N.length fn)) :=
  ⟨f, fd, ps, ok_D F S hbody, hm, F.kp, hb, rfl⟩
theorem refAt0_eq {ρ : Rho} {l : List D} (h : refAt0 ρ = some l) : ρ[0]? = some (some (.ref l)) := by
  unfold refAt0 refC at h
  split at h
  · rename_i m e; cases h; exact e
  · cases h
theorem ok_RC {x qual : Str} {st : Stmt} {f : Addr} {fd : FuncData} {N ps : List Str} {k : Nat} {fn : Rho → OS} (F : Fun B.K x qual st f fd) (S : FnScope N ps (defScope st))
    (hbody : ∀ (cdv : Value), CodeAt B.K x qual st f fd cdv → ∀ (A : Around) (outer : List Env) (s : Shared) (H : Hp) (E : XK), Room k (A.deeper (envOfC qual (defScope st) s.heap.objs.size f cdv)) →
      PSs (cxOf (L2N.CX P w) P w B.K mg base N qual (defScope st) f cdv A outer s H E) (defBody st) (tSt B (wishOf E) fn)) : FnOk P w B.K mg base (L2N.CX P w) (k + 1) f fd ps (spOf B (mR (runR ps.length N.length fn))) := by
  have hps : ps.length ≤ N.length := by have := congrArg List.length S.pre; rw [List.length_take] at this; omega
  have sel : ∀ {cs : List C}, mR (runR ps.length N.length fn) cs ≠ .no → ∃ (l : List D) (ds : List D), cs = .ref l :: ds.map C.dat ∧ ds.length + 1 = ps.length := fun {cs} h => by
    unfold mR at h
    split at h
    · rename_i l r
      cases e : datsOf r with
      | none => rw [e] at h; exact absurd rfl h
      | some ds =>
        rw [e] at h
        refine ⟨l, ds, by rw [datsOf_eq e], ?_⟩
        dsimp only at h
        unfold runR at h
        by_cases q : ds.length + 1 = ps.length
        · exact q
        · rw [if_neg q] at h; exact absurd rfl h
    · exact absurd rfl h
  refine okN F S (fun vs H Q E h => ?_) (fun cdv hcd A outer s H vs Q E hr h => ?_)
  · obtain ⟨G, cs, no, nk, E0, h⟩ := h
    have hne : mR (runR ps.length N.length fn) cs ≠ .no := fun z => by rw [z] at h; exact h
    obtain ⟨l, ds, rfl, hl⟩ := sel hne
    have := E0.len
    unfold argsR argsS at this
    rw [List.length_map, List.length_map, List.length_cons, List.length_map] at this
    omega
  · obtain ⟨G, cs, no, nk, E0, h⟩ := h
    have hne : mR (runR ps.length N.length fn) cs ≠ .no := fun z => by rw [z] at h; exact h
    obtain ⟨l, ds, rfl, hl⟩ := sel hne
    refine ⟨_, hbody cdv hcd A outer s H E hr, ?_⟩
    have hcl : (C.ref l :: ds.map C.dat).length ≤ N.length := by rw [List.length_cons, List.length_map]; omega
    refine ⟨_, _, G, E0.widen hcl, ?_⟩
    have nar : ∀ {ρ' σ' H' G' l'}, EnvOk B (Rf.reb (start0 N.length (.ref l :: ds.map C.dat)) (L2.start N vs) H G) ρ' σ' H' G' → ρ'[0]? = some (some (.ref l')) → EnvOk B (Rf.reb (argsR (.ref l :: ds.map C.dat)) (argsS vs) H G) (argsR (.ref l' :: ds.map C.dat)) (argsS vs) H' G' := fun {ρ' σ' H' G' l'} E1 hρ => by
      refine E0.narrow no hcl E1 (by simp) (fun i d h => ?_) (fun i m h => ?_) (fun i m h => ?_) (fun i m h => ?_) (fun i k m h => ?_) (fun i m h => ?_) (fun i m h => ?_)
      · cases i with
        | zero => cases h
        | succ i => exact h
      · cases i with
        | zero => cases h
        | succ i => exact (datsNo (ds := ds)).2 i m h
      · cases i with
        | zero => cases h
        | succ i => exact datsK (ds := ds) i m h
      · cases i with
        | zero => cases h
        | succ i => exact h
      · cases i with
        | zero => cases h
        | succ i => exact h
      · cases i with
        | zero => cases h; exact ⟨⟨l, rfl⟩, hρ⟩
        | succ i => exact absurd (show (ds.map C.dat)[i]? = some _ from h) ((datsNo (ds := ds)).1 i m)
      · cases i with
        | zero => exact ⟨l', rfl⟩
        | succ i => exact absurd (show (ds.map C.dat)[i]? = some _ from h) ((datsNo (ds := ds)).1 i m)
    unfold mR at h
    dsimp only at h
    rw [datsOf_dats] at h
    dsimp only at h
    unfold runR at h
    rw [if_pos hl] at h
    cases ef : fn (start0 N.length (.ref l :: ds.map C.dat)) with
    | nx ρ' =>
      rw [ef] at h
      dsimp only at h
      cases er : refAt0 ρ' with
      | none => rw [er] at h; exact False.elim h
      | some l' =>
        rw [er] at h
        exact fun σ' H' G' E1 _ => h .non H' G' (nar E1 (refAt0_eq er)) .non
    | ret d ρ' =>
      rw [ef] at h
      dsimp only at h
      cases er : refAt0 ρ' with
      | none => rw [er] at h; exact False.elim h
      | some l' =>
        rw [er] at h
        exact fun σ' H' G' E1 _ v hv => h v H' G' (nar E1 (refAt0_eq er)) hv
    | retO l2 ρ' => rw [ef] at h; exact h.elim
    | retK l2 ρ' => rw [ef] at h; exact h.elim
    | retV k l2 ρ' => rw [ef] at h; exact h.elim
    | ex e ρ' =>
      rw [ef] at h
      dsimp only at h
      cases er : refAt0 ρ' with
      | none => rw [er] at h; exact False.elim h
      | some l' =>
        rw [er] at h
        exact fun cls a σ' H' G' E1 _ ex => h cls a H' G' (nar E1 (refAt0_eq er)) ex
    | no => rw [ef] at h; exact h
/-- another function that says the same where it says anything -/
theorem FnGood.imp {lv n : Nat} {x : Str} {f g : FSem} (F : FnGood B P w mg base lv x n f) (h : ∀ cs, g cs ≠ .no → f cs = g cs) : FnGood B P w mg base lv x n g := by
  obtain ⟨fa, fd, ps, h1, h2, h3, h4, h5⟩ := F.ex
  refine ⟨fa, fd, ps, h1.imp fun vs H Q E q => ?_, h2, h3, h4, h5⟩
  obtain ⟨G, cs, no, nk, E0, q⟩ := q
  refine ⟨G, cs, no, nk, E0, ?_⟩
  rw [h cs (fun z => by rw [z] at q; exact q)]
  exact q
theorem FnGood.impD {lv n : Nat} {x : Str} {f g : List D → FD} (F : FnGood B P w mg base lv x n (mD f)) (h : ∀ ds, g ds ≠ .no → f ds = g ds) : FnGood B P w mg base lv x n (mD g) := F.imp fun cs hg => by
  unfold mD at hg ⊢
  cases e : datsOf cs with
  | none => rfl
  | some ds =>
    rw [e] at hg
    dsimp only at hg ⊢
    rw [h ds (fun z => by rw [z] at hg; exact hg rfl)]
theorem FnGood.impR {lv n : Nat} {x : Str} {f g : List D → List D → FL} (F : FnGood B P w mg base lv x n (mR f)) (h : ∀ l ds, g l ds ≠ .no → f l ds = g l ds) : FnGood B P w mg base lv x n (mR g) := F.imp fun cs hg => by
  unfold mR at hg ⊢
  split
  · rename_i l r
    dsimp only at hg
    cases e : datsOf r with
    | none => rfl
    | some ds =>
      rw [e] at hg
      dsimp only at hg ⊢
      rw [h l ds (fun z => by rw [z] at hg; exact hg rfl)]
  · rfl
/-- calls of such defs -/
theorem sCallD_mD {f : List D → FD} {fa : Rho → O (List D)} {ρ : Rho} : sCallD (mD f) fa ρ = (fa ρ).bind fun ds ρ1 => match f ds with
    | .ret d => .ok d ρ1
    | .retO l => .ok (.list l) ρ1
    | .retK _ => .no
    | .retV _ _ => .no
    | .exc e => .ex e ρ1
    | .no => .no := by
  unfold sCallD mD
  congr 1
  funext ds ρ1
  rw [datsOf_dats]
  dsimp only
  cases f ds <;> rfl
theorem sCallR_mR {f : List D → List D → FL} {i : Nat} {fa : Rho → O (List D)} {ρ : Rho} : sCallR (mR f) i fa ρ = match heldAt ρ i with
    | none => .no
    | some _ => (fa ρ).bind fun ds ρ1 => match heldAt ρ1 i with
      | none => .no
      | some l => match f l ds with
        | .ret d l' => .ok d (setL ρ1 i l')
        | .exc e l' => .ex e (setL ρ1 i l')
        | .no => .no := by
  unfold sCallR mR
  cases heldAt ρ i with
  | none => rfl
  | some l0 =>
    dsimp only
    congr 1
    funext ds ρ1
    cases heldAt ρ1 i with
    | none => rfl
    | some l =>
      dsimp only
      rw [datsOf_dats]
      dsimp only
      cases f l ds <;> rfl
theorem good_R {x qual : Str} {st : Stmt} {f : Addr} {fd : FuncData} {N ps : List Str} {k : Nat} {fn : Rho → OS} (F : Fun B.K x qual st f fd) (S : FnScope N ps (defScope st)) (hb : Binds B.K fd ps []) (hm : mg x = some (.ref f))
    (hbody : ∀ (cdv : Value) (A : Around) (outer : List Env) (s : Shared) (H : Hp) (E : XK), Room k (A.deeper (envOfC qual (defScope st) s.heap.objs.size f cdv)) →
      PSs (cxOf (L2N.CX P w) P w B.K mg base N qual (defScope st) f cdv A outer s H E) (defBody st) (tSt B (wishOf E) fn)) : FnGood B P w mg base (k + 1) x ps.length (mR (runR ps.length N.length fn)) :=
  ⟨f, fd, ps, ok_RC F S (fun cdv _ => hbody cdv), hm, F.kp, hb, rfl⟩
end
end
end Rf

set_option maxRecDepth 100000
set_option maxHeartbeats 4000000
namespace Rf
open PySem PySem.Spec PyProof.Rows L2
section
variable {X : Cx} {B : Bs} {Wx : WX} {S : Sit} {ρ : Rho} {σ : St} {H G : Hp}
/-- the turns of a comprehension's clause, the list at D being filled -/
theorem lc_loop {t : Tg} {vs : List Nat} {fc fe : Rho → O D} {xs zs : List D} {J : It} {G1 : Hp} {D : Addr} {ρ0 ρe : Rho} {acc0 : List V} {accd0 : List Rf.D} {Qd : Hp → Prop} (ht : ∀ i ∈ t.slots, i ∈ vs) (FJ : Feeds B J G1 xs)
    (E0 : EnvOk B S ρ0 (L2.wipe σ vs) H G1) (hD : H D = some (.lst acc0)) (gD : G1 D = none) (wD : S.W D) (lo : Loose ρ0 (L2.wipe σ vs) D) (dp : DpAll B.K G1 acc0 accd0) (eg : lcGo t vs fc fe xs ρ0 = .ok zs ρe) (cl0 : ∀ j : Nat, j ∈ vs → ∀ c, ρ0[j]? ≠ some (some c)) (hz : accd0.length + zs.length ≤ sizeLine)
    (fin : ∀ H' G' acc, EnvOk B S ρe (L2.wipe σ vs) H' G' → H' D = some (.lst acc) → G' D = none → Loose ρe (L2.wipe σ vs) D → Le G1 G' → DpAll B.K G' acc (accd0 ++ zs) → (∀ j : Nat, j ∈ vs → ∀ c, ρe[j]? ≠ some (some c)) → Qd H') (Wy Wz : WX) :
    ∃ W : Nat → Nat → Hp → Prop, (∃ m, W 0 m H) ∧ ∀ i m H, W i m H → (J.stop i H ∧ Qd H) ∨ (J.go i H ∧ ∃ Nx : Hp → Prop, (∀ H', Nx H' → ∃ m', m' < m ∧ W (i + 1) m' H') ∧ ∀ x H', J.yld i H x H' → tTg B t x (L2.wipe σ vs) H' fun σ2 H2 => L2.wipe σ2 vs = L2.wipe σ vs ∧ tEt B Wy fc σ2 H2 fun b H3 =>
      if b = true then tEv B Wz fe σ2 H3 fun y H4 => ∃ acc, H4 D = some (.lst acc) ∧ acc.length < sizeLine ∧ Nx (upd H4 D (.lst (acc ++ [y]))) else Nx H3) := by
  refine ⟨fun i m H => m = xs.length - i ∧ i ≤ xs.length ∧ ∃ ρi Gi acc accd rest, EnvOk B S ρi (L2.wipe σ vs) H Gi ∧ H D = some (.lst acc) ∧ Gi D = none ∧ Loose ρi (L2.wipe σ vs) D ∧ Le G1 Gi ∧ DpAll B.K Gi acc accd ∧
    lcGo t vs fc fe (xs.drop i) ρi = .ok rest ρe ∧ accd ++ rest = accd0 ++ zs ∧ (∀ j : Nat, j ∈ vs → ∀ c, ρi[j]? ≠ some (some c)), ⟨xs.length, by simp, Nat.zero_le _, ρ0, G1, acc0, accd0, zs, E0, hD, gD, lo, Le.refl, dp, eg, rfl, cl0⟩, ?_⟩
  rintro i m Hi ⟨rfl, hi, ρi, Gi, acc, accd, rest, Ei, hDi, gDi, loi, lei, dpi, gi, ei, cli⟩
  obtain ⟨fgo, fstop⟩ := FJ S ρi (L2.wipe σ vs) Hi Gi Ei lei
  by_cases hlt : i < xs.length
  · refine .inr ?_
    obtain ⟨x, hx⟩ : ∃ x, xs[i]? = some x := ⟨xs[i], by simp [hlt]⟩
    have hdrop : xs.drop i = x :: xs.drop (i + 1) := by
      rw [List.drop_eq_getElem_cons hlt]
      have : xs[i] = x := by
        have := List.getElem?_eq_getElem hlt
        rw [this] at hx; exact Option.some.inj hx
      rw [this]
    refine ⟨(fgo i x hx).1, ?_⟩
    let S' := Rf.reb ρi (L2.wipe σ vs) Hi Gi
    have Er := Ei.reb
    obtain ⟨rgo, _⟩ := FJ S' ρi (L2.wipe σ vs) Hi Gi Er lei
    have nt : ∀ ps, (HO.lst acc) ≠ .tbl ps := fun ps z => by cases z
    rw [hdrop] at gi
    unfold lcGo at gi
    refine ⟨fun H' => (xs.length - (i + 1)) = xs.length - (i + 1) ∧ i + 1 ≤ xs.length ∧ ∃ ρi Gi acc accd rest, EnvOk B S ρi (L2.wipe σ vs) H' Gi ∧ H' D = some (.lst acc) ∧ Gi D = none ∧ Loose ρi (L2.wipe σ vs) D ∧ Le G1 Gi ∧ DpAll B.K Gi acc accd ∧
      lcGo t vs fc fe (xs.drop (i + 1)) ρi = .ok rest ρe ∧ accd ++ rest = accd0 ++ zs ∧ (∀ j : Nat, j ∈ vs → ∀ c, ρi[j]? ≠ some (some c)), fun H' w => ⟨_, by omega, w⟩, fun xv H' hy => ?_⟩
    obtain ⟨G2, E2, le2, dp2⟩ := (rgo i x hx).2 xv H' hy
    cases eb : bindT t x ρi with
    | none => rw [eb] at gi; cases gi
    | some ρ3 =>
      rw [eb] at gi
      refine ⟨S', ρi, G2, x, ρ3, E2, dp2, eb, fun σ3 E3 off => ?_⟩
      have hw : L2.wipe σ3 vs = L2.wipe (L2.wipe σ vs) vs := wipe_ext off.1 fun j hj => off.2 j fun m => hj (ht j m)
      have hww : L2.wipe (L2.wipe σ vs) vs = L2.wipe σ vs := wipe_ext (wipe_length σ vs) fun j hj => wipe_out hj
      have hw : L2.wipe σ3 vs = L2.wipe σ vs := hw.trans hww
      refine ⟨hw, S', ρ3, G2, E3, ?_⟩
      have back : ∀ ρ4 H4 G4, EnvOk B S' ρ4 σ3 H4 G4 → Le G2 G4 → EnvOk B S (wipeR ρ4 vs) (L2.wipe σ vs) H4 G4 ∧ H4 D = some (.lst acc) ∧ G4 D = none ∧ Loose (wipeR ρ4 vs) (L2.wipe σ vs) D ∧ Le G1 G4 ∧ DpAll B.K G4 acc accd := fun ρ4 H4 G4 E4 le4 => by
        obtain ⟨k1, k2⟩ := E4.reb_keep hDi nt gDi loi (Ei.nodct hDi)
        have lo4 := E4.reb_loose hDi loi (Ei.nodct hDi)
        have Eu := Ei.unreb E4
        have nr4 : ∀ i : Nat, i ∈ vs → ∀ l, ρ4[i]? ≠ some (some (.ref l)) := fun i hi l z => by
          obtain ⟨l0, h0⟩ := E4.noref z
          exact cli i hi _ h0
        have Ew := Eu.wipe nr4
        rw [hw] at Ew
        refine ⟨Ew, k1, k2, fun j l h z => ?_, lei.trans (le2.trans le4), DpAll.up (le2.trans le4) dpi⟩
        have z' := z
        rw [← hw] at z'
        obtain ⟨h1, h2⟩ := wipe_some z'
        have h' : Hd ρ4 j l := by
          rcases h with h | h
          · rw [wipeR_out h2] at h; exact .inl h
          · rw [wipeR_out h2] at h; exact .inr h
        exact lo4 j l h' h1
      dsimp only at gi
      cases ec : fc ρ3 with
      | no => rw [ec] at gi; cases gi
      | ex e ρ4 => rw [ec] at gi; cases gi
      | ok c ρ4 =>
        rw [ec] at gi
        intro H4 G4 E4 le4
        cases c with
        | bool b =>
          cases b with
          | false =>
            refine ⟨false, rfl, ifF ?_⟩
            obtain ⟨k1, k2, k3, k4, k5, k6⟩ := back ρ4 H4 G4 E4 le4
            exact ⟨rfl, hlt, wipeR ρ4 vs, G4, acc, accd, rest, k1, k2, k3, k4, k5, k6, gi, ei, fun j hj => wipeR_clean hj⟩
          | true =>
            refine ⟨true, rfl, ifT ⟨S', ρ4, G4, E4, ?_⟩⟩
            dsimp only at gi
            cases ee : fe ρ4 with
            | no => rw [ee] at gi; cases gi
            | ex e ρ5 => rw [ee] at gi; cases gi
            | ok y ρ5 =>
              rw [ee] at gi
              intro H5 G5 E5 le5 v hv
              dsimp only at gi
              cases er : lcGo t vs fc fe (xs.drop (i + 1)) (wipeR ρ5 vs) with
              | no => rw [er] at gi; cases gi
              | ex e ρ6 => rw [er] at gi; cases gi
              | ok us ρ6 =>
                rw [er] at gi
                cases gi
                obtain ⟨k1, k2, k3, k4, k5, k6⟩ := back ρ5 H5 G5 E5 (le4.trans le5)
                have hl : acc.length < sizeLine := by
                  have e := congrArg List.length ei
                  rw [List.length_append, List.length_append, List.length_cons] at e
                  rw [dpi.length]; omega
                refine ⟨acc, k2, hl, rfl, hlt, wipeR ρ5 vs, G5, acc ++ [v], accd ++ [y], us, k1.upl k2 k3 wD k4, upd_same, k3, k4, k5, k6.append (.cons hv .nil), er, by rw [← ei]; simp, fun j hj => wipeR_clean hj⟩
        | _ => cases gi
  · have e : i = xs.length := by omega
    subst e
    refine .inl ⟨fstop, ?_⟩
    rw [List.drop_length] at gi
    unfold lcGo at gi
    cases gi
    rw [List.append_nil] at ei
    subst ei
    exact fin Hi Gi acc Ei hDi gDi loi lei dpi cli
/-- two clauses -/
def lc2Go (t : Tg) (vs : List Nat) (fc : Rho → O D) (fi1 : Rho → O (List D)) (t1 : Tg) (vs1 : List Nat) (fc1 fe : Rho → O D) : List D → Rho → O (List D)
  | [], ρ => .ok [] ρ
  | x :: xs, ρ => match bindT t x ρ with
    | none => .no
    | some ρ1 => match fc ρ1 with
      | .ok (.bool true) ρ2 => match fi1 ρ2 with
        | .ok ys ρ3 => if notHeld ρ3 vs1 then match lcGo t1 vs1 fc1 fe ys (wipeR ρ3 vs1) with
          | .ok zs ρ4 => match lc2Go t vs fc fi1 t1 vs1 fc1 fe xs (wipeR ρ4 vs) with
            | .ok us ρ5 => .ok (zs ++ us) ρ5
            | _ => .no
          | _ => .no
          else .no
        | _ => .no
      | .ok (.bool false) ρ2 => lc2Go t vs fc fi1 t1 vs1 fc1 fe xs (wipeR ρ2 vs)
      | _ => .no
def sLc2 (t : Tg) (vs : List Nat) (fi : Rho → O (List D)) (fc : Rho → O D) (fi1 : Rho → O (List D)) (t1 : Tg) (vs1 : List Nat) (fc1 fe : Rho → O D) : Rho → O (List D) := fun ρ => (fi ρ).bind fun xs ρ1 =>
  if notHeld ρ1 vs then match lc2Go t vs fc fi1 t1 vs1 fc1 fe xs (wipeR ρ1 vs) with
    | .ok ys ρ2 => if ys.length ≤ 16777216 then .ok ys (restR ρ1 ρ2 vs) else .no
    | _ => .no
  else .no
theorem loose_wipe {ρ : Rho} {σ : St} {vs : List Nat} {p : Addr} (h : Loose ρ σ p) : Loose (wipeR ρ vs) (L2.wipe σ vs) p := fun i l hd z => by
  obtain ⟨h1, h2⟩ := wipe_some z
  have h' : Hd ρ i l := by
    rcases hd with hd | hd
    · rw [wipeR_out h2] at hd; exact .inl hd
    · rw [wipeR_out h2] at hd; exact .inr hd
  exact h i l h' h1
theorem notHeld_noref {ρ : Rho} {vs : List Nat} (n : notHeld ρ vs = true) : ∀ i : Nat, i ∈ vs → ∀ l, ρ[i]? ≠ some (some (.ref l)) := fun i hi l z => by
  have q := List.all_eq_true.mp n i hi
  rw [z] at q; cases q
theorem loose_rest {ρ1 ρ2 : Rho} {σ : St} {vs : List Nat} {p : Addr} (n : notHeld ρ1 vs = true) (h : Loose ρ2 (L2.wipe σ vs) p) : Loose (restR ρ1 ρ2 vs) σ p := fun j l hd z => by
  by_cases m : j ∈ vs
  · have hlt : j < ρ2.length := by
      rcases hd with h | h
      · have := (List.getElem?_eq_some_iff.mp h).1; rw [restR_length] at this; exact this
      · have := (List.getElem?_eq_some_iff.mp h).1; rw [restR_length] at this; exact this
    have q := List.all_eq_true.mp n j m
    cases e : ρ1[j]? with
    | none => rw [e] at q; cases q
    | some x =>
      rw [e] at q
      cases x with
      | none =>
        rcases hd with h | h
        · rw [restR_in hlt m, e] at h; cases h
        · rw [restR_in hlt m, e] at h; cases h
      | some c => cases c with
        | dat d =>
          rcases hd with h | h
          · rw [restR_in hlt m, e] at h; cases h
          · rw [restR_in hlt m, e] at h; cases h
        | own l => cases q
        | ref l => cases q
        | dct l => cases q
        | raw l => cases q
        | rel k l => cases q
  · have h' : Hd ρ2 j l := by
      rcases hd with h | h
      · rw [restR_out m] at h; exact .inl h
      · rw [restR_out m] at h; exact .inr h
    exact h j l h' (by rw [wipe_out m]; exact z)
theorem lc2_read {t t1 : Tg} {vs vs1 : List Nat} {fi fi1 : Rho → O (List D)} {fc fc1 fe : Rho → O D} {Q : VK} (ht : ∀ i ∈ t.slots, i ∈ vs) (ht1 : ∀ i ∈ t1.slots, i ∈ vs1) (hvs : ∀ i ∈ vs1, i ∈ vs) (h : tEo B Wx (sLc2 t vs fi fc fi1 t1 vs1 fc1 fe) σ H Q) (Wy Wi Wy1 Wz : WX) :
    tLc2 (tIt B Wx fi) (tTg B t) (tEt B Wy fc) (tIt B Wi fi1) (tTg B t1) (tEt B Wy1 fc1) (tEv B Wz fe) vs vs1 σ H Q := by
  obtain ⟨S, ρ, G, E, P⟩ := h
  refine ⟨S, ρ, G, E, P.bind.imp fun xs ρ1 H1 G1 E1 le1 P1 hxs J FJ D hD => ?_⟩
  split at P1
  · rename_i nh
    cases eg : lc2Go t vs fc fi1 t1 vs1 fc1 fe xs (wipeR ρ1 vs) with
    | no => rw [eg] at P1; exact False.elim P1
    | ex e ρ2 => rw [eg] at P1; exact False.elim P1
    | ok ys ρ2 =>
      rw [eg] at P1
      dsimp only at P1
      split at P1
      · rename_i hys
        have nr1 := notHeld_noref nh
        obtain ⟨F1, F2, F3, F4, F5⟩ := E1.newl (vs := []) hD
        have wD : S.W D := S.wn D (E1.there D hD)
        refine ⟨fun i m H => m = xs.length - i ∧ i ≤ xs.length ∧ ∃ ρi Gi acc accd rest, EnvOk B S ρi (L2.wipe σ vs) H Gi ∧ H D = some (.lst acc) ∧ Gi D = none ∧ Loose ρi (L2.wipe σ vs) D ∧ Le G1 Gi ∧ DpAll B.K Gi acc accd ∧
          lc2Go t vs fc fi1 t1 vs1 fc1 fe (xs.drop i) ρi = .ok rest ρ2 ∧ accd ++ rest = ys ∧ (∀ j : Nat, j ∈ vs → ∀ c, ρi[j]? ≠ some (some c)), ⟨xs.length, by simp, Nat.zero_le _, wipeR ρ1 vs, G1, [], [], ys, F1.wipe nr1, F2, F3, loose_wipe F5, Le.refl, .nil, eg, rfl, fun j hj => wipeR_clean hj⟩, ?_⟩
        rintro i m Hi ⟨rfl, hi, ρi, Gi, acc, accd, rest, Ei, hDi, gDi, loi, lei, dpi, gi, ei, cli⟩
        obtain ⟨fgo, fstop⟩ := FJ S ρi (L2.wipe σ vs) Hi Gi Ei lei
        by_cases hlt : i < xs.length
        · refine .inr ?_
          obtain ⟨x, hx⟩ : ∃ x, xs[i]? = some x := ⟨xs[i], by simp [hlt]⟩
          have hdrop : xs.drop i = x :: xs.drop (i + 1) := by
            rw [List.drop_eq_getElem_cons hlt]
            have : xs[i] = x := by
              have := List.getElem?_eq_getElem hlt
              rw [this] at hx; exact Option.some.inj hx
            rw [this]
          refine ⟨(fgo i x hx).1, ?_⟩
          let S' := Rf.reb ρi (L2.wipe σ vs) Hi Gi
          have Er := Ei.reb
          obtain ⟨rgo, _⟩ := FJ S' ρi (L2.wipe σ vs) Hi Gi Er lei
          have nt : ∀ ps, (HO.lst acc) ≠ .tbl ps := fun ps z => by cases z
          rw [hdrop] at gi
          unfold lc2Go at gi
          refine ⟨fun H' => (xs.length - (i + 1)) = xs.length - (i + 1) ∧ i + 1 ≤ xs.length ∧ ∃ ρi Gi acc accd rest, EnvOk B S ρi (L2.wipe σ vs) H' Gi ∧ H' D = some (.lst acc) ∧ Gi D = none ∧ Loose ρi (L2.wipe σ vs) D ∧ Le G1 Gi ∧ DpAll B.K Gi acc accd ∧
            lc2Go t vs fc fi1 t1 vs1 fc1 fe (xs.drop (i + 1)) ρi = .ok rest ρ2 ∧ accd ++ rest = ys ∧ (∀ j : Nat, j ∈ vs → ∀ c, ρi[j]? ≠ some (some c)), fun H' w => ⟨_, by omega, w⟩, fun xv H' hy => ?_⟩
          obtain ⟨G2, E2, le2, dp2⟩ := (rgo i x hx).2 xv H' hy
          cases eb : bindT t x ρi with
          | none => rw [eb] at gi; cases gi
          | some ρ3 =>
            rw [eb] at gi
            refine ⟨S', ρi, G2, x, ρ3, E2, dp2, eb, fun σ3 E3 off => ?_⟩
            have hw : L2.wipe σ3 vs = L2.wipe (L2.wipe σ vs) vs := wipe_ext off.1 fun j hj => off.2 j fun m => hj (ht j m)
            have hww : L2.wipe (L2.wipe σ vs) vs = L2.wipe σ vs := wipe_ext (wipe_length σ vs) fun j hj => wipe_out hj
            have hw : L2.wipe σ3 vs = L2.wipe σ vs := hw.trans hww
            refine ⟨hw, S', ρ3, G2, E3, ?_⟩
            have back : ∀ ρ4 H4 G4, EnvOk B S' ρ4 σ3 H4 G4 → Le G2 G4 → EnvOk B S ρ4 σ3 H4 G4 ∧ H4 D = some (.lst acc) ∧ G4 D = none ∧ Loose ρ4 σ3 D ∧ Le G1 G4 ∧ DpAll B.K G4 acc accd := fun ρ4 H4 G4 E4 le4 => by
              obtain ⟨k1, k2⟩ := E4.reb_keep hDi nt gDi loi (Ei.nodct hDi)
              exact ⟨Ei.unreb E4, k1, k2, E4.reb_loose hDi loi (Ei.nodct hDi), lei.trans (le2.trans le4), DpAll.up (le2.trans le4) dpi⟩
            have norefs : ∀ {ρ4 H4 G4}, EnvOk B S' ρ4 σ3 H4 G4 → ∀ i : Nat, i ∈ vs → ∀ l, ρ4[i]? ≠ some (some (.ref l)) := fun E4 i hi l z => by
              obtain ⟨l0, h0⟩ := E4.noref z
              exact cli i hi _ h0
            dsimp only at gi
            cases ec : fc ρ3 with
            | no => rw [ec] at gi; cases gi
            | ex e ρ4 => rw [ec] at gi; cases gi
            | ok c ρ4 =>
              rw [ec] at gi
              intro H4 G4 E4 le4
              cases c with
              | bool b =>
                cases b with
                | false =>
                  refine ⟨false, rfl, ifF ?_⟩
                  obtain ⟨k1, k2, k3, k4, k5, k6⟩ := back ρ4 H4 G4 E4 le4
                  have kw := k1.wipe (norefs E4)
                  have kl := loose_wipe (vs := vs) k4
                  rw [hw] at kw kl
                  exact ⟨rfl, hlt, wipeR ρ4 vs, G4, acc, accd, rest, kw, k2, k3, kl, k5, k6, gi, ei, fun j hj => wipeR_clean hj⟩
                | true =>
                  refine ⟨true, rfl, ifT ⟨S', ρ4, G4, E4, ?_⟩⟩
                  dsimp only at gi
                  cases ee : fi1 ρ4 with
                  | no => rw [ee] at gi; cases gi
                  | ex e ρ5 => rw [ee] at gi; cases gi
                  | ok us ρ5 =>
                    rw [ee] at gi
                    intro H5 G5 E5 le5 hus J1 FJ1
                    dsimp only at gi
                    split at gi
                    · rename_i nh1
                      cases e1 : lcGo t1 vs1 fc1 fe us (wipeR ρ5 vs1) with
                      | no => rw [e1] at gi; cases gi
                      | ex e ρ6 => rw [e1] at gi; cases gi
                      | ok zs ρ6 =>
                        rw [e1] at gi
                        dsimp only at gi
                        cases e2 : lc2Go t vs fc fi1 t1 vs1 fc1 fe (xs.drop (i + 1)) (wipeR ρ6 vs) with
                        | no => rw [e2] at gi; cases gi
                        | ex e ρ7 => rw [e2] at gi; cases gi
                        | ok rs ρ7 =>
                          rw [e2] at gi
                          cases gi
                          obtain ⟨k1, k2, k3, k4, k5, k6⟩ := back ρ5 H5 G5 E5 (le4.trans le5)
                          have hsz : accd.length + zs.length ≤ sizeLine := by
                            have e := congrArg List.length ei
                            rw [List.length_append, List.length_append] at e
                            rw [line_eq]; omega
                          have hw1 : ∀ {τ : St}, L2.wipe (L2.wipe τ vs1) vs = L2.wipe τ vs := fun {τ} => wipe_ext (wipe_length τ vs1) fun j hj => wipe_out fun m => hj (hvs j m)
                          refine lc_loop ht1 FJ1 (k1.wipe (notHeld_noref nh1)) k2 k3 wD (loose_wipe k4) k6 e1 (fun j hj => wipeR_clean hj) hsz (fun H' G' acc' E' h1 h2 h3 h4 h5 h6 => ?_) Wy1 Wz
                          have nr6 : ∀ i : Nat, i ∈ vs → ∀ l, ρ6[i]? ≠ some (some (.ref l)) := fun i hi l z => by
                            obtain ⟨l0, h0⟩ := E'.noref z
                            obtain ⟨l1, h1⟩ := Ei.isref i l0 h0
                            exact cli i hi _ h1
                          have Ew := E'.wipe nr6
                          have kl := loose_wipe (vs := vs) h3
                          rw [hw1, hw] at Ew kl
                          exact ⟨rfl, hlt, wipeR ρ6 vs, G', acc', accd ++ zs, rs, Ew, h1, h2, kl, k5.trans h4, h5, e2, by rw [← ei, List.append_assoc], fun j hj => wipeR_clean hj⟩
                    · cases gi
              | _ => cases gi
        · have e : i = xs.length := by omega
          subst e
          refine .inl ⟨fstop, ?_⟩
          rw [List.drop_length] at gi
          unfold lc2Go at gi
          cases gi
          rw [List.append_nil] at ei
          subst ei
          have Ef := E1.rest nh Ei lei cli
          exact P1 Hi Gi Ef lei D acc hDi gDi wD (loose_rest nh loi) (by rw [dpi.length, line_eq]; exact hys) dpi
      · exact False.elim P1
  · exact False.elim P1

/-! ### comprehensions as expressions -/
abbrev wNo : WX := fun _ _ _ _ => False
def sYes : Rho → O D := fun ρ => .ok (.bool true) ρ
theorem rp_nil {B : Bs} {Wx : WX} {X : Cx} : PTs X [] (tEt B Wx sYes) := ⟨fun pins s σ H Q I ⟨S, ρ, G, E, P⟩ => pts_nil.run pins s σ H Q I (by
  obtain ⟨b, e, q⟩ := P H G E Le.refl
  cases e; exact q)⟩
theorem rp_one {B : Bs} {Wx : WX} {X : Cx} {c : Expr} {fc : Rho → O D} (h : PT X c (tEt B Wx fc)) : PTs X [c] (tEt B Wx fc) := pts_one h
theorem r_lc {elt tg iter : Expr} {ifs : List Expr} {scope : Scope} {own : List (Str × Nat)} {pos : Pos} {t : Tg} {fi : Rho → O (List D)} {fc fe : Rho → O D} (hc : X.calm = true) (hN : X.N.Nodup) (hi : PI X tg iter (tIt B Wx fi)) (ok : BlkOk X.N X.env.scope scope own) (ht : ∀ i ∈ t.slots, i ∈ own.map (·.2))
    (hg : ∀ (s : Shared) (H : Hp) (C : Addr) (cl : List (Str × Addr)) (fp : List Addr), PG (X.blk s H scope (compEnvC scope cl C X.env) fp) tg (tTg B t)) (hf : ∀ (s : Shared) (H : Hp) (C : Addr) (cl : List (Str × Addr)) (fp : List Addr), PTs (X.blk s H scope (compEnvC scope cl C X.env) fp) ifs (tEt B wNo fc))
    (he : ∀ (s : Shared) (H : Hp) (C : Addr) (cl : List (Str × Addr)) (fp : List Addr), PE (X.blk s H scope (compEnvC scope cl C X.env) fp) elt (tEv B wNo fe)) (hs : ∀ x, foldedSetIterable iter X.env x = pure x) :
    PE X (.ListComp elt [⟨tg, iter, ifs, 0⟩] scope pos) (tEo B Wx (sLc t (own.map (·.2)) fi fc fe)) :=
  (pe_lc hc hN hi ok hg hf he hs).imp' fun σ H Q h => lc_read ht h wNo wNo
theorem q_lc {i : Nat} {y : Str} {py : Pos} {elt tg iter : Expr} {ifs : List Expr} {scope : Scope} {own : List (Str × Nat)} {pos spos : Pos} {t : Tg} {fi : Rho → O (List D)} {fc fe : Rho → O D} (hc : X.calm = true) (hN : X.N.Nodup) (hy : X.N[i]? = some y) (hyl : X.env.scope.names.lookup y = some .local)
    (hsw : swapsWith (.ListComp elt [⟨tg, iter, ifs, 0⟩] scope pos) (some (.Name y py)) spos.line X.env = pure true) (hi : PI X tg iter (tIt B Wx fi)) (ok : BlkOk X.N X.env.scope scope own) (ht : ∀ i ∈ t.slots, i ∈ own.map (·.2))
    (hg : ∀ (s : Shared) (H : Hp) (C : Addr) (cl : List (Str × Addr)) (fp : List Addr), PG (X.blk s H scope (compEnvC scope cl C X.env) fp) tg (tTg B t)) (hf : ∀ (s : Shared) (H : Hp) (C : Addr) (cl : List (Str × Addr)) (fp : List Addr), PTs (X.blk s H scope (compEnvC scope cl C X.env) fp) ifs (tEt B wNo fc))
    (he : ∀ (s : Shared) (H : Hp) (C : Addr) (cl : List (Str × Addr)) (fp : List Addr), PE (X.blk s H scope (compEnvC scope cl C X.env) fp) elt (tEv B wNo fe)) (hs : ∀ x, foldedSetIterable iter X.env x = pure x) :
    PS X (.Assign [.Name y py] (.ListComp elt [⟨tg, iter, ifs, 0⟩] scope pos) spos) (tSt B Wx (sAsg (.nm i) fun ρ => (sLc t (own.map (·.2)) fi fc fe ρ).bind fun l ρ1 => .ok (.list l) ρ1)) :=
  (ps_setLc hc hN hy hyl hsw hi ok hg hf he hs).imp' fun D σ H h => tLc_asg wNo wNo ht h
theorem q_lcO {i : Nat} {y : Str} {py : Pos} {elt tg iter : Expr} {ifs : List Expr} {scope : Scope} {own : List (Str × Nat)} {pos spos : Pos} {t : Tg} {fi : Rho → O (List D)} {fc fe : Rho → O D} (hc : X.calm = true) (hN : X.N.Nodup) (hy : X.N[i]? = some y) (hyl : X.env.scope.names.lookup y = some .local)
    (hsw : swapsWith (.ListComp elt [⟨tg, iter, ifs, 0⟩] scope pos) (some (.Name y py)) spos.line X.env = pure true) (hi : PI X tg iter (tIt B Wx fi)) (ok : BlkOk X.N X.env.scope scope own) (ht : ∀ i ∈ t.slots, i ∈ own.map (·.2))
    (hg : ∀ (s : Shared) (H : Hp) (C : Addr) (cl : List (Str × Addr)) (fp : List Addr), PG (X.blk s H scope (compEnvC scope cl C X.env) fp) tg (tTg B t)) (hf : ∀ (s : Shared) (H : Hp) (C : Addr) (cl : List (Str × Addr)) (fp : List Addr), PTs (X.blk s H scope (compEnvC scope cl C X.env) fp) ifs (tEt B wNo fc))
    (he : ∀ (s : Shared) (H : Hp) (C : Addr) (cl : List (Str × Addr)) (fp : List Addr), PE (X.blk s H scope (compEnvC scope cl C X.env) fp) elt (tEv B wNo fe)) (hs : ∀ x, foldedSetIterable iter X.env x = pure x) :
    PS X (.Assign [.Name y py] (.ListComp elt [⟨tg, iter, ifs, 0⟩] scope pos) spos) (tSt B Wx (sAsgO i (sLc t (own.map (·.2)) fi fc fe))) :=
  (ps_setLc hc hN hy hyl hsw hi ok hg hf he hs).imp' fun D σ H h => tLc_asgO wNo wNo ht h
theorem r_lc2 {elt tg iter tg1 iter1 : Expr} {ifs ifs1 : List Expr} {scope : Scope} {own : List (Str × Nat)} {vs1 : List Nat} {pos : Pos} {t t1 : Tg} {fi fi1 : Rho → O (List D)} {fc fc1 fe : Rho → O D} (hc : X.calm = true) (hN : X.N.Nodup) (hi : PI X tg iter (tIt B Wx fi)) (ok : BlkOk X.N X.env.scope scope own) (hv : ∀ i ∈ vs1, i ∈ own.map (·.2)) (ht : ∀ i ∈ t.slots, i ∈ own.map (·.2)) (ht1 : ∀ i ∈ t1.slots, i ∈ vs1)
    (hg : ∀ (s : Shared) (H : Hp) (C : Addr) (cl : List (Str × Addr)) (fp : List Addr), PG (X.blk s H scope (compEnvC scope cl C X.env) fp) tg (tTg B t)) (hf : ∀ (s : Shared) (H : Hp) (C : Addr) (cl : List (Str × Addr)) (fp : List Addr), PTs (X.blk s H scope (compEnvC scope cl C X.env) fp) ifs (tEt B wNo fc))
    (hi1 : ∀ (s : Shared) (H : Hp) (C : Addr) (cl : List (Str × Addr)) (fp : List Addr), PI (X.blk s H scope (compEnvC scope cl C X.env) fp) tg1 iter1 (tIt B wNo fi1))
    (hg1 : ∀ (s : Shared) (H : Hp) (C : Addr) (cl : List (Str × Addr)) (fp : List Addr), PG (X.blk s H scope (compEnvC scope cl C X.env) fp) tg1 (tTg B t1)) (hf1 : ∀ (s : Shared) (H : Hp) (C : Addr) (cl : List (Str × Addr)) (fp : List Addr), PTs (X.blk s H scope (compEnvC scope cl C X.env) fp) ifs1 (tEt B wNo fc1))
    (he : ∀ (s : Shared) (H : Hp) (C : Addr) (cl : List (Str × Addr)) (fp : List Addr), PE (X.blk s H scope (compEnvC scope cl C X.env) fp) elt (tEv B wNo fe)) (hs : ∀ x, foldedSetIterable iter X.env x = pure x) (hs1 : ∀ env x, foldedSetIterable iter1 env x = pure x) :
    PE X (.ListComp elt [⟨tg, iter, ifs, 0⟩, ⟨tg1, iter1, ifs1, 0⟩] scope pos) (tEo B Wx (sLc2 t (own.map (·.2)) fi fc fi1 t1 vs1 fc1 fe)) :=
  (pe_lc2 hc hN hi ok hv hg hf hi1 hg1 hf1 he hs hs1).imp' fun σ H Q h => lc2_read ht ht1 hv h wNo wNo wNo wNo
theorem q_lc2 {i : Nat} {y : Str} {py : Pos} {elt tg iter tg1 iter1 : Expr} {ifs ifs1 : List Expr} {scope : Scope} {own : List (Str × Nat)} {vs1 : List Nat} {pos spos : Pos} {t t1 : Tg} {fi fi1 : Rho → O (List D)} {fc fc1 fe : Rho → O D} (hc : X.calm = true) (hN : X.N.Nodup) (hy : X.N[i]? = some y) (hyl : X.env.scope.names.lookup y = some .local)
    (hsw : swapsWith (.ListComp elt [⟨tg, iter, ifs, 0⟩, ⟨tg1, iter1, ifs1, 0⟩] scope pos) (some (.Name y py)) spos.line X.env = pure true) (hi : PI X tg iter (tIt B Wx fi)) (ok : BlkOk X.N X.env.scope scope own) (hv : ∀ i ∈ vs1, i ∈ own.map (·.2)) (ht : ∀ i ∈ t.slots, i ∈ own.map (·.2)) (ht1 : ∀ i ∈ t1.slots, i ∈ vs1)
    (hg : ∀ (s : Shared) (H : Hp) (C : Addr) (cl : List (Str × Addr)) (fp : List Addr), PG (X.blk s H scope (compEnvC scope cl C X.env) fp) tg (tTg B t)) (hf : ∀ (s : Shared) (H : Hp) (C : Addr) (cl : List (Str × Addr)) (fp : List Addr), PTs (X.blk s H scope (compEnvC scope cl C X.env) fp) ifs (tEt B wNo fc))
    (hi1 : ∀ (s : Shared) (H : Hp) (C : Addr) (cl : List (Str × Addr)) (fp : List Addr), PI (X.blk s H scope (compEnvC scope cl C X.env) fp) tg1 iter1 (tIt B wNo fi1))
    (hg1 : ∀ (s : Shared) (H : Hp) (C : Addr) (cl : List (Str × Addr)) (fp : List Addr), PG (X.blk s H scope (compEnvC scope cl C X.env) fp) tg1 (tTg B t1)) (hf1 : ∀ (s : Shared) (H : Hp) (C : Addr) (cl : List (Str × Addr)) (fp : List Addr), PTs (X.blk s H scope (compEnvC scope cl C X.env) fp) ifs1 (tEt B wNo fc1))
    (he : ∀ (s : Shared) (H : Hp) (C : Addr) (cl : List (Str × Addr)) (fp : List Addr), PE (X.blk s H scope (compEnvC scope cl C X.env) fp) elt (tEv B wNo fe)) (hs : ∀ x, foldedSetIterable iter X.env x = pure x) (hs1 : ∀ env x, foldedSetIterable iter1 env x = pure x) :
    PS X (.Assign [.Name y py] (.ListComp elt [⟨tg, iter, ifs, 0⟩, ⟨tg1, iter1, ifs1, 0⟩] scope pos) spos) (tSt B Wx (sAsg (.nm i) fun ρ => (sLc2 t (own.map (·.2)) fi fc fi1 t1 vs1 fc1 fe ρ).bind fun l ρ1 => .ok (.list l) ρ1)) :=
  (ps_setLc2 hc hN hy hyl hsw hi ok hv hg hf hi1 hg1 hf1 he hs hs1).imp' fun D σ H h => by
    obtain ⟨S, ρ, G, E, P⟩ := h
    refine lc2_read ht ht1 hv (Q := fun x H1 => gName i x σ H1 D.nx) ⟨S, ρ, G, E, ?_⟩ wNo wNo wNo wNo
    have P1 := (P.run (σ := σ)).bind
    refine P1.imp fun l ρ1 H1 G1 E1 le1 q p us h1 h2 h3 h4 h5 h6 => ?_
    have E2 := E1.freeze h1 h2 h3 h4 h5
    have q2 := q H1 (upd G1 p (.lst us)) E2 (Le.upd h2)
    dsimp only at q2
    cases e : bindT (.nm i) (.list l) ρ1 with
    | none => rw [e] at q2; exact False.elim q2
    | some ρ2 =>
      rw [e] at q2
      exact q2 _ H1 _ (E2.bindN e (.lst (SqL.of upd_same) (DpAll.up (Le.upd h2) h6))) Le.refl
end
end Rf

set_option maxRecDepth 100000
set_option maxHeartbeats 4000000
namespace Rf
open PySem PySem.Spec PyProof.Rows L2

/-! ### sorted: any number of tuples of ints -/
section
variable {prog : Program} {w : World} {A : Around} {E : Value → Shared → Prop} {s : Shared}
def ltC (B : Int) (h : Heap) (v u : Value) : Bool := decide (TS.code B (TS.intsOf h v) < TS.code B (TS.intsOf h u))
theorem ltC_swo (B : Int) (h : Heap) : SrtO.Swo (ltC B h) := by
  refine ⟨fun x y h => ?_, fun x y z h1 h2 => ?_⟩
  · have a := of_decide_eq_true h
    exact decide_eq_false (by omega)
  · have a := of_decide_eq_false h1
    have b := of_decide_eq_false h2
    exact decide_eq_false (by omega)
theorem tups_sortableO {a : Addr} {vs : List Value} {d : Nat} {B : Int} (hd : 1 ≤ d) (h2 : 2 ≤ vs.length) (x : TS.TupsOk s.heap d B vs) (ha : ∀ o, s.heap.get? a = some o → o.cls ≠ .type "tuple") : SrtO.SortableO prog w A s a vs (ltC B s.heap) := by
  intro h' keep
  have keep' : ∀ b o, s.heap.get? b = some o → o.cls = .type "tuple" → h'.get? b = some o := fun b o e c => keep b o (fun z => by subst z; exact ha o e c) e
  obtain ⟨fs, k, hl, hi⟩ := TS.firsts_of hd vs (x.keeps keep')
  refine ⟨tuples' true, fun Q E hq => ?_, fun p q hm hm' => ?_⟩
  · refine PySem.W.kat_kind (T := .type "int") k (by omega) (fun f hf => ?_) (by rfl) ?_
    · obtain ⟨n, t, rfl⟩ := hi f hf
      exact PySem.W.Looks.of_pure rfl
    · have e : (Value.type "int" != Value.type "tuple") = true := by first | decide +kernel | rfl | decide
      rw [e]
      exact hq
  · obtain ⟨ns, tp0, lp, bp⟩ := x _ hm
    obtain ⟨ms, tq0, lq, bq⟩ := x _ hm'
    have tp := tp0.keeps keep'
    have tq := tq0.keeps keep'
    have e0 : SrtO.lt2 (ltC B s.heap) p q = decide (TS.code B ns < TS.code B ms) := by
      show ltC B s.heap p.1 q.1 = _
      unfold ltC
      rw [tp0.ints, tq0.ints]
    rw [e0]
    obtain ⟨a1, xs, e1, ⟨o, ho, hc, n, hdt⟩, i⟩ := tp
    obtain ⟨a2, ys, e2, ⟨o', ho', hc', n', hdt'⟩, i'⟩ := tq
    rw [e1, e2]
    refine PySem.W.kat_lt (s := { s with heap := h' }) ho hdt ho' hdt' ?_
    have sz : decide (xs.size < ys.size) = false := by
      have l1 := i.length
      have l2 := i'.length
      rw [Array.length_toList] at l1 l2
      exact decide_eq_false (by omega)
    rw [sz]
    exact TS.lex_ints 0 i i' (by omega) bp bq ⟨rfl, rfl⟩
end
def rSortA (K : PySem.W.Frag) (d : Nat) (B : Int) : List V → Hp → VK → Prop := fun vs H Q => ∃ (a : Addr) (xs : List V), vs = [V.ref a] ∧ SqL K H a xs ∧ (∀ x ∈ xs, ∃ ns, TupI K H x ns ∧ ns.length = d ∧ TS.Bd B ns) ∧
  ∀ (ys : List V) (p : Addr), ys.Perm xs → ys.Pairwise (fun x y => ∀ n m, TupI K H x n → TupI K H y m → TS.code B n ≤ TS.code B m) → H p = none → Q (.ref p) (upd H p (.lst ys))
section
variable {X : Cx}
theorem cr_sortA {d : Nat} {B : Int} (hd : 1 ≤ d) : CallR X (.builtin "sorted") (rSortA X.K d B) := by
  intro pins s σ H vs us Q I r h
  obtain ⟨a, xs, rfl, hs, hx, q⟩ := h
  obtain ⟨its, rv, hl, hz⟩ := I.list hs
  rw [Vals.ref1 r]
  obtain ⟨e1, e2⟩ := bkV_refs rv fun x m => by
    obtain ⟨ns, ⟨t, e, _⟩, _⟩ := hx x m
    exact ⟨t, e⟩
  have hx' : TS.TupsOk s.heap d B its := fun v hv => by
    obtain ⟨t, rfl⟩ := e2 v hv
    have hm : V.ref t ∈ xs := by
      rw [e1]
      exact List.mem_map.mpr ⟨_, hv, rfl⟩
    obtain ⟨ns, ⟨t', e, ht⟩, hn, hb⟩ := hx _ hm
    cases e
    exact ⟨ns, tupI_raw I ht, hn, hb⟩
  refine SrtO.sorted_ord (ltC_swo B s.heap) hl.isList (by rw [← rv.length]; exact hz) (fun h2 h₁ a' ha kk => ?_) fun out h1 h2 => ?_
  · have e : ltC B s.heap = ltC B s.heap := rfl
    have key := tups_sortableO (prog := X.prog) (w := X.w) (A := X.A.in1.in1) (s := { s with heap := h₁ }) (a := a') (vs := its) (d := d) (B := B) hd h2 (hx'.keeps fun b o e _ => (kk b o e).2) fun o e => by
      have e' : some o = some (seqObj "list" its.toArray 0) := e.symm.trans ha
      cases e'
      intro c
      exact absurd (Value.type.inj c) (by decide)
    intro h' keep
    obtain ⟨κ, k1, k2⟩ := key h' keep
    refine ⟨κ, k1, fun p q hp hq => ?_⟩
    have := k2 p q hp hq
    have e3 : SrtO.lt2 (ltC B h₁) p q = SrtO.lt2 (ltC B s.heap) p q := by
      obtain ⟨ns, t1, _⟩ := hx' _ hp
      obtain ⟨ms, t2, _⟩ := hx' _ hq
      show ltC B h₁ p.1 q.1 = ltC B s.heap p.1 q.1
      unfold ltC
      rw [t1.ints, t2.ints, (t1.keeps fun b o e _ => (kk b o e).2).ints, (t2.keeps fun b o e _ => (kk b o e).2).ints]
    rw [← e3]
    exact this
  · obtain ⟨ep, he'⟩ := PyProof.Rows.sortedAll_at s.heap its out.toArray
    have h3 : ∀ u ∈ out, ∃ a, u = Value.ref a := fun u hu => e2 u (h2.perm.mem_iff.mp hu)
    have hp : (out.map bkV).Perm xs := by
      rw [e1]
      exact h2.perm.map bkV
    have hlen : (out.map bkV).length ≤ sizeLine := by
      rw [hp.length_eq]
      exact hz
    refine ⟨.ref _, upd H (s.heap.objs.size + 1) (.lst (out.map bkV)), I.laid (t' := s.toks) (fun _ _ => PyProof.Rows.sortedAll_old) (Nat.le_succ _) ⟨hlen, out, ep, bkV_vals h3, he'⟩, rfl, q _ _ hp ?_ (I.hok.fresh (Nat.le_succ _))⟩
    rw [List.pairwise_map]
    refine List.Pairwise.imp (fun {u v} huv n m hn hm => ?_) h1
    obtain ⟨t, et, ht⟩ := hn
    obtain ⟨t', et', ht'⟩ := hm
    have eu := bkV_ref et
    have ev := bkV_ref et'
    have i1 : TS.intsOf s.heap u = n := by
      rw [eu]
      exact (tupI_raw I ht).ints
    have i2 : TS.intsOf s.heap v = m := by
      rw [ev]
      exact (tupI_raw I ht').ints
    have huv' : ltC B s.heap v u = false := huv
    unfold ltC at huv'
    have := of_decide_eq_false huv'
    rw [i1, i2] at this
    omega
end

/-! ### the order on data -/
abbrev BB : Int := 18446744073709551616
def rankD : D → Int
  | .int i => i
  | .tuple ds => match intsOf ds with
    | some ns => TS.code BB ns
    | none => 0
  | _ => 0
def insD (d : D) : List D → List D
  | [] => [d]
  | e :: r => if rankD d ≤ rankD e then d :: e :: r else e :: insD d r
def sortD : List D → List D
  | [] => []
  | d :: r => insD d (sortD r)
def insU (d : D) : List D → List D
  | [] => [d]
  | e :: r => if rankD d < rankD e then d :: e :: r else if rankD d = rankD e then e :: r else e :: insU d r
def setD : List D → List D
  | [] => []
  | d :: r => insU d (setD r)
theorem insD_perm (d : D) : ∀ l, (insD d l).Perm (d :: l)
  | [] => .refl _
  | e :: r => by
    unfold insD
    split
    · exact .refl _
    · exact ((insD_perm d r).cons e).trans (.swap d e r)
theorem sortD_perm : ∀ l, (sortD l).Perm l
  | [] => .refl _
  | d :: r => (insD_perm d _).trans ((sortD_perm r).cons d)
abbrev AscD (l : List D) : Prop := l.Pairwise fun a b => rankD a ≤ rankD b
abbrev StrD (l : List D) : Prop := l.Pairwise fun a b => rankD a < rankD b
theorem insD_asc (d : D) : ∀ l, AscD l → AscD (insD d l)
  | [], _ => List.pairwise_singleton _ _
  | e :: r, h => by
    obtain ⟨h1, h2⟩ := List.pairwise_cons.mp h
    unfold insD
    split
    · rename_i c
      refine List.pairwise_cons.mpr ⟨fun x hx => ?_, h⟩
      rcases List.mem_cons.mp hx with rfl | hx
      · exact c
      · exact Int.le_trans c (h1 x hx)
    · rename_i c
      refine List.pairwise_cons.mpr ⟨fun x hx => ?_, insD_asc d r h2⟩
      rcases List.mem_cons.mp ((insD_perm d r).mem_iff.mp hx) with rfl | hx
      · omega
      · exact h1 x hx
theorem sortD_asc : ∀ l, AscD (sortD l)
  | [] => List.Pairwise.nil
  | d :: r => insD_asc d _ (sortD_asc r)
theorem insU_mem (d : D) : ∀ l x, x ∈ insU d l → x = d ∨ x ∈ l
  | [], x, h => .inl (List.mem_singleton.mp h)
  | e :: r, x, h => by
    unfold insU at h
    split at h
    · rcases List.mem_cons.mp h with h | h
      · exact .inl h
      · exact .inr h
    · split at h
      · exact .inr h
      · rcases List.mem_cons.mp h with h | h
        · exact .inr (h ▸ List.mem_cons_self)
        · rcases insU_mem d r x h with h | h
          · exact .inl h
          · exact .inr (List.mem_cons_of_mem _ h)
theorem insU_str (d : D) : ∀ l, StrD l → StrD (insU d l)
  | [], _ => List.pairwise_singleton _ _
  | e :: r, h => by
    obtain ⟨h1, h2⟩ := List.pairwise_cons.mp h
    unfold insU
    split
    · rename_i c
      refine List.pairwise_cons.mpr ⟨fun x hx => ?_, h⟩
      rcases List.mem_cons.mp hx with rfl | hx
      · exact c
      · exact Int.lt_trans c (h1 x hx)
    · split
      · exact h
      · refine List.pairwise_cons.mpr ⟨fun x hx => ?_, insU_str d r h2⟩
        rcases insU_mem d r x hx with rfl | hx
        · omega
        · exact h1 x hx
theorem setD_str : ∀ l, StrD (setD l)
  | [] => List.Pairwise.nil
  | d :: r => insU_str d _ (setD_str r)
theorem setD_sub : ∀ l x, x ∈ setD l → x ∈ l
  | [], x, h => h
  | d :: r, x, h => by
    rcases insU_mem d _ x h with h | h
    · exact h ▸ List.mem_cons_self
    · exact List.mem_cons_of_mem _ (setD_sub r x h)
theorem insU_has (d : D) : ∀ l, ∃ y ∈ insU d l, rankD y = rankD d
  | [] => ⟨d, List.mem_singleton.mpr rfl, rfl⟩
  | e :: r => by
    unfold insU
    split
    · exact ⟨d, List.mem_cons_self, rfl⟩
    · split
      · rename_i c; exact ⟨e, List.mem_cons_self, c.symm⟩
      · obtain ⟨y, h1, h2⟩ := insU_has d r
        exact ⟨y, List.mem_cons_of_mem _ h1, h2⟩
theorem insU_old (d : D) : ∀ l x, x ∈ l → x ∈ insU d l
  | e :: r, x, h => by
    unfold insU
    split
    · exact List.mem_cons_of_mem _ h
    · split
      · exact h
      · rcases List.mem_cons.mp h with h | h
        · exact h ▸ List.mem_cons_self
        · exact List.mem_cons_of_mem _ (insU_old d r x h)
theorem setD_has : ∀ l x, x ∈ l → ∃ y ∈ setD l, rankD y = rankD x
  | d :: r, x, h => by
    rcases List.mem_cons.mp h with rfl | h
    · exact insU_has x _
    · obtain ⟨y, h1, h2⟩ := setD_has r x h
      exact ⟨y, insU_old d _ y h1, h2⟩
/-- what tells data by its rank -/
def InjD (l : List D) : Prop := ∀ a ∈ l, ∀ b ∈ l, rankD a = rankD b → a = b
theorem setD_mem {l : List D} (hi : InjD l) {x : D} : x ∈ setD l ↔ x ∈ l := ⟨setD_sub l x, fun h => by
  obtain ⟨y, h1, h2⟩ := setD_has l x h
  rw [← hi y (setD_sub l y h1) x h h2]
  exact h1⟩
theorem asc_uniq : ∀ {l m : List D}, InjD l → AscD l → AscD m → l.Perm m → l = m
  | [], m, _, _, _, h => (List.Perm.nil_eq h)
  | a :: l, [], _, _, _, h => absurd h.length_eq (by simp)
  | a :: l, b :: m, hi, h1, h2, h => by
    obtain ⟨a1, a2⟩ := List.pairwise_cons.mp h1
    obtain ⟨b1, b2⟩ := List.pairwise_cons.mp h2
    have ba : b ∈ a :: l := h.mem_iff.mpr List.mem_cons_self
    have ab : a ∈ b :: m := h.mem_iff.mp List.mem_cons_self
    have e : a = b := by
      refine hi a List.mem_cons_self b ba (Int.le_antisymm ?_ ?_)
      · rcases List.mem_cons.mp ba with z | z
        · rw [z]; exact Int.le_refl _
        · exact a1 b z
      · rcases List.mem_cons.mp ab with z | z
        · rw [z]; exact Int.le_refl _
        · exact b1 a z
    subst e
    rw [asc_uniq (fun x hx y hy => hi x (List.mem_cons_of_mem _ hx) y (List.mem_cons_of_mem _ hy)) a2 b2 h.cons_inv]
theorem str_asc {l : List D} (h : StrD l) : AscD l := h.imp fun {a b} x => by omega
theorem str_nodup {l : List D} (h : StrD l) : l.Nodup := h.imp fun {a b} x e => by subst e; omega
theorem str_uniq {l m : List D} (hi : InjD l) (h1 : StrD l) (h2 : StrD m) (h : ∀ x, x ∈ l ↔ x ∈ m) : l = m :=
  asc_uniq hi (str_asc h1) (str_asc h2) ((List.perm_ext_iff_of_nodup (str_nodup h1) (str_nodup h2)).mpr h)
/-! ### what can be sorted -/
def okTup (n : Nat) : D → Bool
  | .tuple ds => match intsOf ds with
    | some ns => ns.length == n && ns.all fun i => decide (0 ≤ i ∧ i < BB)
    | none => false
  | _ => false
def tupN : D → Nat
  | .tuple ds => ds.length
  | _ => 0
def tupsOk (l : List D) : Bool := match l with
  | [] => true
  | d :: _ => decide (1 ≤ tupN d) && l.all (okTup (tupN d))
def sortOk (l : List D) : Bool := (intsOf l).isSome || tupsOk l
theorem okTup_eq {n : Nat} {d : D} (h : okTup n d = true) : ∃ ns : List Int, d = .tuple (ns.map .int) ∧ ns.length = n ∧ TS.Bd BB ns ∧ rankD d = TS.code BB ns := by
  unfold okTup at h
  split at h
  · rename_i ds
    split at h
    · rename_i ns e
      rw [Bool.and_eq_true] at h
      obtain ⟨h1, h2⟩ := h
      refine ⟨ns, by rw [intsOf_eq e], by simpa using h1, fun m hm => ?_, by show (match intsOf ds with | some ns => TS.code BB ns | none => 0) = _; rw [e]⟩
      exact of_decide_eq_true (List.all_eq_true.mp h2 m hm)
    · cases h
  · cases h
theorem code_inj {B : Int} : ∀ {ns ms : List Int}, ns.length = ms.length → TS.Bd B ns → TS.Bd B ms → TS.code B ns = TS.code B ms → ns = ms
  | [], [], _, _, _, _ => rfl
  | n :: ns, m :: ms, hl, h1, h2, e => by
    have hl' : ns.length = ms.length := by simpa using hl
    have en : n = m := by
      rcases Int.lt_trichotomy n m with c | c | c
      · have := TS.code_lt hl' h1.tail h2.tail c; omega
      · exact c
      · have := TS.code_lt hl'.symm h2.tail h1.tail c; omega
    subst en
    have e' : TS.code B ns = TS.code B ms := by
      have u : n * B ^ ns.length + TS.code B ns = n * B ^ ms.length + TS.code B ms := e
      rw [hl'] at u
      generalize n * B ^ ms.length = X at u
      omega
    rw [code_inj hl' h1.tail h2.tail e']
theorem inj_ints {l : List D} (h : (intsOf l).isSome = true) : InjD l := by
  obtain ⟨ns, e⟩ := Option.isSome_iff_exists.mp h
  rw [intsOf_eq e]
  intro a ha b hb r
  obtain ⟨i, _, rfl⟩ := List.mem_map.mp ha
  obtain ⟨j, _, rfl⟩ := List.mem_map.mp hb
  have r' : i = j := r
  rw [r']
theorem tupsOk_all {l : List D} (h : tupsOk l = true) : ∃ n, 1 ≤ n ∧ ∀ d ∈ l, okTup n d = true := by
  unfold tupsOk at h
  split at h
  · exact ⟨1, Nat.le_refl _, fun d hd => nomatch hd⟩
  · rename_i d r
    rw [Bool.and_eq_true] at h
    exact ⟨_, of_decide_eq_true h.1, fun x hx => List.all_eq_true.mp h.2 x hx⟩
theorem inj_tups {l : List D} (h : tupsOk l = true) : InjD l := by
  obtain ⟨n, _, h⟩ := tupsOk_all h
  intro a ha b hb r
  obtain ⟨ns, rfl, l1, b1, r1⟩ := okTup_eq (h a ha)
  obtain ⟨ms, rfl, l2, b2, r2⟩ := okTup_eq (h b hb)
  rw [code_inj (by omega) b1 b2 (by rw [← r1, ← r2]; exact r)]
theorem inj_ok {l : List D} (h : sortOk l = true) : InjD l := by
  unfold sortOk at h
  rw [Bool.or_eq_true] at h
  rcases h with h | h
  · exact inj_ints h
  · exact inj_tups h
end Rf

set_option maxRecDepth 100000
set_option maxHeartbeats 4000000
namespace Rf
open PySem PySem.Spec PyProof.Rows L2
section
variable {P : Program} {w : World} {A : Around} {E : Value → Shared → Prop} {s : Shared}
/-- set(xs), xs a list of ints: its table can be walked -/
theorem call_set_listI {l : Addr} {items : Array Value} (ns : List Int) {Q : Value → Shared → Prop} (hh : A.handled = none) (hl : s.heap.IsList l items) (hit : IntsAre items.toList ns) (hb : ns.length + 1 < scanBound)
    (h : ∀ (h' : Heap) (tk c : Nat), SetR w h' s.heap.objs.size (fun j => decide (j ∈ ns)) c → (∀ b o, s.heap.get? b = some o → h'.get? b = some o) → Q (.ref s.heap.objs.size) { s with heap := h', toks := tk }) :
    wpAny (model P w) A (call (.type "set") [.ref l]) Q E s := by
  have hisz : items.size = ns.length := by
    have q := IntsAre.length hit
    rw [Array.length_toList] at q
    exact q
  obtain ⟨c, tl, hmro⟩ := F.called_set.mro
  have hmade := F.called_set.made
  have hsub := F.called_set.sub
  refine wpAny_call (codeAny_of_tree ?_)
  show wpAny _ _ (callAny (.type "set") _) _ _ _
  refine wpAny_pure ⟨Code.quiet_builtin _ (by decide +kernel), codeAny_builtin F.entry_type_call ?_⟩
  rw [Around.under_plain (weight_type_call_type "set" [.ref l] []) rfl]
  have h1 := F.called_set.notType
  have h2 := F.called_set.canCreate
  have hct := F.typeCall_set_1 (.ref l)
  repeat (any_goals (first | assumption | wp_step))
  refine codeAny_mono (code_set_led1 (.ref l) (E := E) (Q₁ := fun obj s₁ => obj = .ref s.heap.objs.size ∧ s₁ = { s with heap := s.heap.push { cls := .type "set", dict := none, data := .set #[] 0 (.fresh 0 0 (!w.params.followText "set-order")) } }) ⟨rfl, rfl⟩) fun r s₁ hr => ?_
  cases r with
  | error e => exact hr
  | ok fl =>
    cases fl with
    | ret obj =>
      obtain ⟨rfl, rfl⟩ := hr
      have hS : (s.heap.push { cls := .type "set", dict := none, data := .set #[] 0 (.fresh 0 0 (!w.params.followText "set-order")) }).get? s.heap.objs.size = some { cls := .type "set", dict := none, data := .set #[] 0 (.fresh 0 0 (!w.params.followText "set-order")) } := Heap.get?_push_size _ rfl
      have hT : Shared.TypeIs { s with heap := s.heap.push { cls := .type "set", dict := none, data := .set #[] 0 (.fresh 0 0 (!w.params.followText "set-order")) } } (.ref s.heap.objs.size) "set" := ⟨_, hS, rfl⟩
      have hli := F.called_set.init.lookup
      have hbi := F.called_set.init.bind (.ref s.heap.objs.size)
      repeat (any_goals (first | assumption | wp_step))
      refine codeAny_mono (codeAny_call_builtin (R := wants (fun r s₂ => r = .none ∧ ∃ h' tk c, s₂ = { s with heap := h', toks := tk } ∧ SetR w h' s.heap.objs.size (fun j => decide (j ∈ ns)) c ∧
          (∀ b o, s.heap.get? b = some o → h'.get? b = some o)) E) F.called_set.init.plain F.entry_set_init (check_set_init_1 hT ?_)) fun r₂ s₂ hr₂ => ?_
      · obtain ⟨ol, hol, hcl, nl, hdl⟩ := hl
        obtain ⟨ocls, odict, odata, oslots⟩ := ol
        simp only at hcl hdl
        subst hcl; subst hdl
        have hol' : (s.heap.push { cls := .type "set", dict := none, data := .set #[] 0 (.fresh 0 0 (!w.params.followText "set-order")) }).get? l = some { cls := .type "list", dict := odict, data := .seq items nl, slots := oslots } := Heap.get?_push_of_some _ hol
        have hsls := F.sub_list_set
        have hslf := F.sub_list_frozenset
        have hne : (Value.type "list" == Value.type "dict") = false := by decide
        have hl1 : (s.heap.push { cls := .type "set", dict := none, data := .set #[] 0 (.fresh 0 0 (!w.params.followText "set-order")) }).IsList l items := ⟨_, hol', rfl, nl, rfl⟩
        unfold Builtin.«set.__init__» noKeywords Builtin.Frozenset.updateFrom
        generalize hPI : pyIter = PI
        wp_walk
        subst hPI
        refine wpAny_pyIter_list hl1 ?_
        refine wpAny_bind (wpAny_runValue ?_)
        have hlS : l < s.heap.objs.size := Heap.lt_size hol
        have hh3 : A.in1.in1.in1.handled = none := by simp [hh]
        have hneI : l ≠ (s.heap.push { cls := .type "set", dict := none, data := .set #[] 0 (.fresh 0 0 (!w.params.followText "set-order")) }).objs.size := by
          rw [Heap.size_push]; exact Nat.ne_of_lt (Nat.lt_succ_of_lt hlS)
        have hSf : s.heap.objs.size ∉ [(s.heap.push { cls := .type "set", dict := none, data := .set #[] 0 (.fresh 0 0 (!w.params.followText "set-order")) }).objs.size, l] := by
          rw [Heap.size_push]; simp only [List.mem_cons, List.mem_singleton, List.not_mem_nil, or_false, not_or]
          exact ⟨Nat.ne_of_lt (Nat.lt_succ_self _), Nat.ne_of_gt hlS⟩
        have hval : ∀ (i : Nat) (v : Value), items[i]? = some v → ∃ k t, ns[i]? = some k ∧ v = .int k t := fun i v hv => by
          have hi : i < ns.length := by rw [← hisz]; exact (Array.getElem?_eq_some_iff.mp hv).1
          obtain ⟨t, e⟩ := PyProof.Rows.IntsAre.int_at hit i v (by rw [Array.getElem?_toList]; exact hv)
          refine ⟨ns[i], t, List.getElem?_eq_getElem hi, ?_⟩
          rw [e, List.getD_eq_getElem?_getD, List.getElem?_eq_getElem hi] <;> rfl
        refine set_update_ints ((Walks.list hh3 _ l hneI items).toS) s.heap.objs.size
          hSf ns hisz hb hval (items.size - 0) 0 _ (by omega) (Nat.zero_le _)
          ⟨⟨_, Heap.get?_push_size _ rfl, rfl, rfl⟩, (hl1.push _)⟩ ?hS0 ?hR
        case hS0 =>
          have hget : ((s.heap.push { cls := .type "set", dict := none, data := .set #[] 0 (.fresh 0 0 (!w.params.followText "set-order")) }).push { cls := .type "list_iterator", data := .fields #[.ref l, .int 0 0] }).get? s.heap.objs.size
              = some { cls := .type "set", dict := none, data := .set #[] 0 (.fresh 0 0 (!w.params.followText "set-order")) } := Heap.get?_push_of_some _ hS
          exact ⟨0, Nat.le_refl 0, setR_new_at hget⟩
        case hR =>
          intro s' c' hm hc' hS'
          obtain ⟨h', g2, d', tk', os'⟩ := s'
          have eg : g2 = s.gens := hm.gens
          have ed : d' = s.drawn := hm.drawn
          have eo : os' = s.os := hm.os
          subst eg; subst ed; subst eo
          show wpAny _ _ _ _ _ _
          refine wpAny_pure ?_
          show wpAny _ _ (ret Value.none) _ _ _
          refine wpAny_pure ⟨rfl, h', tk', c', rfl, hS', fun b o e => ?_⟩
          have hb0 : b < s.heap.objs.size := Heap.lt_size e
          have hb1 : b ≠ s.heap.objs.size := Nat.ne_of_lt hb0
          have hb2 : b ≠ (s.heap.push { cls := .type "set", dict := none, data := .set #[] 0 (.fresh 0 0 (!w.params.followText "set-order")) }).objs.size := by
            rw [Heap.size_push]; exact Nat.ne_of_lt (Nat.lt_succ_of_lt hb0)
          exact hm.heap b o (by simp only [List.mem_cons, List.mem_singleton, List.not_mem_nil, or_false, not_or]; exact ⟨hb1, hb2⟩) (Heap.get?_push_of_some _ (Heap.get?_push_of_some _ e))
      · cases r₂ with
        | error e => exact hr₂
        | ok fl₂ =>
          cases fl₂ with
          | ret r =>
            obtain ⟨rfl, h', tk, c', rfl, hS', hk'⟩ := hr₂
            repeat (any_goals (first | assumption | wp_step))
            exact h _ _ _ hS' hk'
          | _ => exact hr₂.elim
    | _ => exact hr.elim
end
theorem nodup_len {α : Type} [DecidableEq α] : ∀ (l L : List α), l.Nodup → (∀ x ∈ l, x ∈ L) → l.length ≤ L.length
  | [], _, _, _ => Nat.zero_le _
  | x :: l, L, hn, hs => by
    obtain ⟨h1, h2⟩ := List.nodup_cons.mp hn
    have hx : x ∈ L := hs x List.mem_cons_self
    have ih := nodup_len l (L.erase x) h2 fun y hy => by
      have hne : y ≠ x := fun e => h1 (e ▸ hy)
      exact (List.mem_erase_of_ne hne).2 (hs y (List.mem_cons_of_mem _ hy))
    have e := List.length_erase_of_mem hx
    have hp : 0 < L.length := List.length_pos_of_mem hx
    rw [List.length_cons]
    omega
theorem setR_count {w : World} {h : Heap} {a : Addr} {ns : List Int} {c : Nat} (R : SetR w h a (fun j => decide (j ∈ ns)) c) (L : List Int) (hL : ∀ k ∈ ns, k ∈ L) : c ≤ L.length := by
  obtain ⟨o, es, ep, t, ho, hx, hd, g, nd, hm, hb, hf, hn, _⟩ := R
  have e : (es.toList.map keyOf).length = c := by rw [List.length_map, Array.length_toList, hn]
  rw [← e]
  exact nodup_len _ L nd fun k hk => hL k (of_decide_eq_true ((hm k).mpr hk))
theorem setR_count' {w : World} {h : Heap} {a : Addr} {ns : List Int} {c : Nat} (R : SetR w h a (fun j => decide (j ∈ ns)) c) (L : List Int) (hL : L.Nodup) (hl : ∀ k, k ∈ L → k ∈ ns) : L.length ≤ c := by
  obtain ⟨o, es, ep, t, ho, hx, hd, g, nd, hm, hb, hf, hn, _⟩ := R
  have e : (es.toList.map keyOf).length = c := by rw [List.length_map, Array.length_toList, hn]
  rw [← e]
  exact nodup_len L _ hL fun k hk => (hm k).mp (decide_eq_true (hl k hk))
section
variable {X : Cx}
/-- set(xs), xs a list of ints -/
def rSetI (K : PySem.W.Frag) (w : World) : List V → Hp → VK → Prop := fun xs H Q => ∃ (l : Addr) (ns : List Int), xs = [V.ref l] ∧ SqL K H l (ns.map V.int) ∧ ns.length + 1 < scanBound ∧
  ∀ a c, H a = none → (∀ L : List Int, (∀ k ∈ ns, k ∈ L) → c ≤ L.length) → (∀ L : List Int, L.Nodup → (∀ k ∈ L, k ∈ ns) → L.length ≤ c) → Q (.ref a) (upd H a (SetO w a (fun j => decide (j ∈ ns)) c))
theorem cr_setI (hc : X.calm = true) : CallR X (.type "set") (rSetI X.K X.w) := by
  intro pins s σ H xs us Q I r h
  obtain ⟨l, ns, rfl, hl, hb, q⟩ := h
  rw [Vals.ref1 r]
  obtain ⟨its, rv, pl, hz⟩ := I.list hl
  refine call_set_listI (P := X.prog) (w := X.w) ns (I.ok.hd hc) pl.isList (by simpa using rv.ints) hb fun h' tk c R k => ?_
  exact ⟨.ref s.heap.objs.size, upd H s.heap.objs.size (SetO X.w s.heap.objs.size (fun j => decide (j ∈ ns)) c), I.laid (t' := tk) k (Nat.le_refl _) (setO_new R), rfl, q _ c (I.hok.fresh (Nat.le_refl _)) (setR_count R) (setR_count' R)⟩
def rSetX (K : PySem.W.Frag) (P : Program) (w : World) : List V → Hp → VK → Prop := fun xs H Q => rSetI K w xs H Q ∨ rSetOfT K P w xs H Q
theorem cr_setX (hc : X.calm = true) (hu : X.A.units + 65 < cLine) : CallR X (.type "set") (rSetX X.K X.prog X.w) := by
  intro pins s σ H xs us Q I r h
  rcases h with h | h
  · exact cr_setI hc pins s σ H xs us Q I r h
  · exact cr_setOfT hc (by omega) pins s σ H xs us Q I r h
def rSortX (K : PySem.W.Frag) (P : Program) (w : World) : List V → Hp → VK → Prop := fun xs H Q => (rSortedI K xs H Q ∨ ∃ d, 1 ≤ d ∧ rSortA K d BB xs H Q) ∨ rSortedSet w xs H Q ∨ rSortedT K P w xs H Q
theorem cr_sortX (hc : X.calm = true) : CallR X (.builtin "sorted") (rSortX X.K X.prog X.w) := by
  intro pins s σ H xs us Q I r h
  rcases h with (h | ⟨d, hd, h⟩) | h | h
  · exact cr_sortedI pins s σ H xs us Q I r h
  · exact cr_sortA hd pins s σ H xs us Q I r h
  · exact cr_sortedSet hc pins s σ H xs us Q I r h
  · exact cr_sortedT hc pins s σ H xs us Q I r h
end
/-! ### data of them -/
theorem DpAll.perm {K : PySem.W.Frag} {G : Hp} {xs ys : List V} (h : ys.Perm xs) : ∀ {ds : List D}, DpAll K G xs ds → ∃ es, es.Perm ds ∧ DpAll K G ys es := by
  induction h with
  | nil => intro ds h; cases h; exact ⟨[], .refl _, .nil⟩
  | cons x _ ih =>
    intro ds h
    cases h with
    | cons a r =>
      obtain ⟨es, h1, h2⟩ := ih r
      exact ⟨_ :: es, h1.cons _, .cons a h2⟩
  | swap x y l =>
    intro ds h
    cases h with
    | cons a r =>
      cases r with
      | cons b t => exact ⟨_ :: _ :: _, .swap _ _ _, .cons b (.cons a t)⟩
  | trans _ _ ih1 ih2 =>
    intro ds h
    obtain ⟨es, h1, h2⟩ := ih2 h
    obtain ⟨fs, h3, h4⟩ := ih1 h2
    exact ⟨fs, h3.trans h1, h4⟩
theorem DpAll.mem {K : PySem.W.Frag} {G : Hp} : ∀ {vs : List V} {ds : List D} {v : V}, DpAll K G vs ds → v ∈ vs → ∃ d ∈ ds, Dp K G v d
  | _, _, _, .cons a r, h => by
    rcases List.mem_cons.mp h with rfl | h
    · exact ⟨_, List.mem_cons_self, a⟩
    · obtain ⟨d, h1, h2⟩ := DpAll.mem r h
      exact ⟨d, List.mem_cons_of_mem _ h1, h2⟩
theorem DpAll.mem' {K : PySem.W.Frag} {G : Hp} : ∀ {vs : List V} {ds : List D} {d : D}, DpAll K G vs ds → d ∈ ds → ∃ v ∈ vs, Dp K G v d
  | _, _, _, .cons a r, h => by
    rcases List.mem_cons.mp h with rfl | h
    · exact ⟨_, List.mem_cons_self, a⟩
    · obtain ⟨d, h1, h2⟩ := DpAll.mem' r h
      exact ⟨d, List.mem_cons_of_mem _ h1, h2⟩
theorem DpAll.pair {K : PySem.W.Frag} {G : Hp} {R : V → V → Prop} {S : D → D → Prop} : ∀ {vs : List V} {ds : List D}, DpAll K G vs ds → vs.Pairwise R → (∀ v d u e, Dp K G v d → Dp K G u e → d ∈ ds → e ∈ ds → R v u → S d e) → ds.Pairwise S
  | _, _, .nil, _, _ => .nil
  | v :: vs, d :: ds, .cons a r, h, k => by
    obtain ⟨h1, h2⟩ := List.pairwise_cons.mp h
    refine List.pairwise_cons.mpr ⟨fun e he => ?_, DpAll.pair r h2 fun v d u e x y m n => k v d u e x y (List.mem_cons_of_mem _ m) (List.mem_cons_of_mem _ n)⟩
    obtain ⟨u, hu, du⟩ := DpAll.mem' r he
    exact k v d u e a du List.mem_cons_self (List.mem_cons_of_mem _ he) (h1 u hu)
theorem dp_tup {K : PySem.W.Frag} {G H : Hp} {v : V} {ns : List Int} (le : Le G H) (h : Dp K G v (.tuple (ns.map .int))) : TupI K H v ns := by
  obtain ⟨a, xs, rfl, s, h2⟩ := dtup h
  rw [DpAll.ints h2] at s
  exact ⟨a, rfl, SqT.le le s⟩
/-- what the set of data is, sorted -/
def dSorted : List D → Option (List D)
  | [.list l] => if sortOk l = true then some (sortD l) else none
  | [.tuple l] => none
  | _ => none
def dSetS : List D → Option (List D)
  | [.list l] => if (intsOf l).isSome = true ∧ l.length < 4000 ∧ (setD l).length < 64 ∨ tupsOk l = true ∧ l.length < 64 then some (setD l) else none
  | _ => none
def dSetN : List D → Option D
  | [.list l] => if (intsOf l).isSome = true ∧ l.length < 4000 then some (.int (setD l).length) else none
  | _ => none
theorem sort_ints {ns ns' : List Int} (hp : ns'.Perm ns) (ha : ns'.Pairwise (· ≤ ·)) : sortD (ns.map PyData.int) = ns'.map PyData.int := by
  have hi : InjD (sortD (ns.map PyData.int)) := fun a ha b hb r => by
    have h0 : InjD (ns.map PyData.int) := inj_ints (by
      have : ∀ l : List Int, intsOf (l.map PyData.int) = some l := fun l => by
        induction l with
        | nil => rfl
        | cons x l ih => rw [List.map_cons]; unfold intsOf; rw [ih]; rfl
      rw [this]; rfl)
    exact h0 a ((sortD_perm _).mem_iff.mp ha) b ((sortD_perm _).mem_iff.mp hb) r
  refine asc_uniq hi (sortD_asc _) (List.pairwise_map.mpr (ha.imp fun {x y} h => h)) ((sortD_perm _).trans (hp.map _).symm)
theorem intsOf_map : ∀ l : List Int, intsOf (l.map PyData.int) = some l
  | [] => rfl
  | x :: l => by rw [List.map_cons]; unfold intsOf; rw [intsOf_map l]; rfl
theorem set_ints {ns ns' : List Int} (ha : ns'.Pairwise (· < ·)) (hm : ∀ k : Int, k ∈ ns' ↔ k ∈ ns) : setD (ns.map PyData.int) = ns'.map PyData.int := by
  have h0 : InjD (ns.map PyData.int) := inj_ints (by rw [intsOf_map]; rfl)
  have hi : InjD (setD (ns.map PyData.int)) := fun a ha b hb r => h0 a (setD_sub _ a ha) b (setD_sub _ b hb) r
  refine str_uniq hi (setD_str _) (List.pairwise_map.mpr (ha.imp fun {x y} h => h)) fun x => ?_
  rw [setD_mem h0, List.mem_map, List.mem_map]
  constructor
  · rintro ⟨k, h1, rfl⟩; exact ⟨k, (hm k).mpr h1, rfl⟩
  · rintro ⟨k, h1, rfl⟩; exact ⟨k, (hm k).mp h1, rfl⟩
/-- the ints that a set of ints holds, in their order -/
theorem set_intsL (ns : List Int) : ∃ L : List Int, setD (ns.map PyData.int) = L.map PyData.int ∧ L.Nodup ∧ ∀ k, k ∈ L ↔ k ∈ ns := by
  have h0 : InjD (ns.map PyData.int) := inj_ints (by rw [intsOf_map]; rfl)
  have : ∀ l : List D, (∀ x ∈ l, ∃ k : Int, x = .int k) → ∃ L : List Int, l = L.map PyData.int := fun l => by
    induction l with
    | nil => exact fun _ => ⟨[], rfl⟩
    | cons a l ih =>
      intro h
      obtain ⟨k, rfl⟩ := h a List.mem_cons_self
      obtain ⟨L, rfl⟩ := ih fun x hx => h x (List.mem_cons_of_mem _ hx)
      exact ⟨k :: L, rfl⟩
  obtain ⟨L, e⟩ := this (setD (ns.map PyData.int)) fun x hx => by
    obtain ⟨k, _, rfl⟩ := List.mem_map.mp (setD_sub _ x hx)
    exact ⟨k, rfl⟩
  refine ⟨L, e, ?_, fun k => ?_⟩
  · have := str_nodup (setD_str (ns.map PyData.int))
    rw [e] at this
    exact (List.pairwise_map.mp this).imp fun {x y} h z => h (by rw [z])
  · have := setD_mem h0 (x := .int k)
    rw [e, List.mem_map, List.mem_map] at this
    constructor
    · intro h
      obtain ⟨j, h1, h2⟩ := this.mp ⟨k, h, rfl⟩
      cases h2; exact h1
    · intro h
      obtain ⟨j, h1, h2⟩ := this.mpr ⟨k, h, rfl⟩
      cases h2; exact h1
end Rf

set_option maxRecDepth 100000
set_option maxHeartbeats 4000000
namespace Rf
open PySem PySem.Spec PyProof.Rows L2
variable {B : Bs} {Wx : WX} {X : Cx}
def sSorted (fa : Rho → O (List D)) : Rho → O (List D) := fun ρ => (fa ρ).bind fun ds ρ1 => lift (dSorted ds) ρ1
def sSetS (fa : Rho → O (List D)) : Rho → O (List D) := fun ρ => (fa ρ).bind fun ds ρ1 => lift (dSetS ds) ρ1
def sSetN (fa : Rho → O (List D)) : Rho → O D := fun ρ => (fa ρ).bind fun ds ρ1 => lift (dSetN ds) ρ1
theorem boot_sorted : bootBuiltins ("sorted" : Str) = some (.builtin "sorted") := by decide +kernel
theorem boot_set : bootBuiltins ("set" : Str) = some (.type "set") := by decide +kernel
theorem r_sorted {e : Expr} {p pos : Pos} {fa : Rho → O (List D)} (hK : X.K = B.K) (hc : X.calm = true) (hg : Gl X "sorted") (hm : X.mg "sorted" = none) (ha : PA X [e] (tEs B Wx fa)) (he : starEach [e] X.env = (false, eval e X.env) :: starEach [] X.env) :
    PE X (.Call (.Name "sorted" p) [e] [] pos) (tEo B Wx (sSorted fa)) :=
  (pe_callB (cr_sortX hc) hg hm boot_sorted ha (by decide) (by decide) he (by rfl)).imp' fun σ H Q ⟨S, ρ, G, E, P⟩ => by
    refine ⟨S, ρ, G, E, P.bind.imp fun ds ρ1 H1 G1 E1 le1 q1 vs hvs => ?_⟩
    unfold dSorted at q1
    split at q1
    · rename_i l
      obtain ⟨v, rfl, hv⟩ := all1 hvs
      obtain ⟨a, xs, rfl, s1, a1⟩ := dlst hv
      split at q1
      · rename_i ok
        unfold sortOk at ok
        rw [Bool.or_eq_true] at ok
        refine .inl ?_
        rcases ok with ok | ok
        · obtain ⟨ns, en⟩ := Option.isSome_iff_exists.mp ok
          have el := intsOf_eq en
          subst el
          rw [DpAll.ints a1] at s1
          refine .inl ⟨a, ns, rfl, hK ▸ SqL.le E1.sub s1, fun ns' p hp ha hn => ?_⟩
          obtain ⟨e1, e2, e3, e4, e5⟩ := E1.newl (vs := ns'.map V.int) hn
          refine q1 _ G1 e1 Le.refl p _ e2 e3 e4 e5 ?_ ?_
          · have := szl E1 s1
            rw [List.length_map] at this ⊢
            rw [hp.length_eq]; exact this
          · rw [sort_ints hp ha]; exact DpAll.of_ints ns'
        · obtain ⟨n, hn1, hall⟩ := tupsOk_all ok
          have hx : ∀ d ∈ l, ∀ v, Dp B.K G1 v d → ∃ ns, TupI X.K H1 v ns ∧ ns.length = n ∧ TS.Bd BB ns ∧ rankD d = TS.code BB ns := fun d hd v hv => by
            obtain ⟨ns, rfl, h1, h2, h3⟩ := okTup_eq (hall d hd)
            exact ⟨ns, hK ▸ dp_tup E1.sub hv, h1, h2, h3⟩
          refine .inr ⟨n, hn1, a, xs, rfl, hK ▸ SqL.le E1.sub s1, fun x hxm => ?_, fun ys p hp hpw hn => ?_⟩
          · obtain ⟨d, hd, hv⟩ := DpAll.mem a1 hxm
            obtain ⟨ns, h1, h2, h3, _⟩ := hx d hd x hv
            exact ⟨ns, h1, h2, h3⟩
          · obtain ⟨e1, e2, e3, e4, e5⟩ := E1.newl (vs := ys) hn
            obtain ⟨es, k1, k2⟩ := DpAll.perm hp a1
            have asc : AscD es := DpAll.pair k2 hpw fun v d u e hv hu hd he r => by
              obtain ⟨ns, h1, _, _, h3⟩ := hx d (k1.mem_iff.mp hd) v hv
              obtain ⟨ms, h4, _, _, h6⟩ := hx e (k1.mem_iff.mp he) u hu
              rw [h3, h6]
              exact r ns ms h1 h4
            have i0 := inj_tups ok
            have ee : es = sortD l := asc_uniq (fun a ha b hb => i0 a (k1.mem_iff.mp ha) b (k1.mem_iff.mp hb)) asc (sortD_asc l) (k1.trans (sortD_perm l).symm)
            subst ee
            refine q1 _ G1 e1 Le.refl p _ e2 e3 e4 e5 ?_ k2
            rw [hp.length_eq]; exact szl E1 s1
      · exact False.elim q1
    · exact False.elim q1
    · exact False.elim q1
theorem scan_big : (4001 : Nat) < scanBound := by decide
theorem ok_of_tups {l : List D} (h : tupsOk l = true) : ∀ d ∈ l, ∃ ns : List Int, d = .tuple (ns.map .int) := fun d hd => by
  obtain ⟨n, _, hall⟩ := tupsOk_all h
  obtain ⟨ns, e, _⟩ := okTup_eq (hall d hd)
  exact ⟨ns, e⟩
/-- the list of tuples, told by addresses -/
theorem addrs_of {K : PySem.W.Frag} {G : Hp} : ∀ {xs : List V} {ds : List D}, DpAll K G xs ds → (∀ d ∈ ds, ∃ ns : List Int, d = .tuple (ns.map .int)) → ∃ ks : List (Addr × List Int), xs = ks.map (fun p => V.ref p.1) ∧ ds = ks.map (fun p => PyData.tuple (p.2.map .int)) ∧ ∀ p ∈ ks, SqT K G p.1 (p.2.map V.int)
  | _, _, .nil, _ => ⟨[], rfl, rfl, fun p hp => nomatch hp⟩
  | v :: vs, d :: ds, .cons a r, h => by
    obtain ⟨ns, rfl⟩ := h d List.mem_cons_self
    obtain ⟨ks, rfl, rfl, h3⟩ := addrs_of r fun e he => h e (List.mem_cons_of_mem _ he)
    obtain ⟨t, xs, rfl, s, h2⟩ := dtup a
    rw [DpAll.ints h2] at s
    refine ⟨(t, ns) :: ks, rfl, rfl, fun p hp => ?_⟩
    rcases List.mem_cons.mp hp with rfl | hp
    · exact s
    · exact h3 p hp
theorem dp_addrs {K : PySem.W.Frag} {G : Hp} : ∀ {ks : List (Addr × List Int)}, (∀ p ∈ ks, SqT K G p.1 (p.2.map V.int)) → DpAll K G (ks.map fun p => V.ref p.1) (ks.map fun p => PyData.tuple (p.2.map .int))
  | [], _ => .nil
  | p :: ks, h => .cons (.tup (h p List.mem_cons_self) (DpAll.of_ints _)) (dp_addrs fun q hq => h q (List.mem_cons_of_mem _ hq))
theorem r_sortSet {e : Expr} {p p2 q2 pos : Pos} {fa : Rho → O (List D)} (hK : X.K = B.K) (hc : X.calm = true) (hu : X.A.units + 65 < cLine) (hg : Gl X "sorted") (hm : X.mg "sorted" = none) (hg2 : Gl X "set") (hm2 : X.mg "set" = none) (ha : PA X [e] (tEs B Wx fa))
    (he : starEach [e] X.env = (false, eval e X.env) :: starEach [] X.env) (he2 : starEach [.Call (.Name "set" p2) [e] [] q2] X.env = (false, eval (.Call (.Name "set" p2) [e] [] q2) X.env) :: starEach [] X.env) :
    PE X (.Call (.Name "sorted" p) [.Call (.Name "set" p2) [e] [] q2] [] pos) (tEo B Wx (sSetS fa)) :=
  (pe_callB (cr_sortX hc) hg hm boot_sorted (pa_cons (pe_callTy (cr_setX hc hu) hg2 hm2 boot_set ha (by decide) (by decide) he (by rfl)) pa_nil he2) (by decide) (by decide) he2 (by rfl)).imp' fun σ H Q ⟨S, ρ, G, E, P⟩ => by
    refine ⟨S, ρ, G, E, P.bind.imp fun ds ρ1 H1 G1 E1 le1 q1 vs hvs => ?_⟩
    unfold dSetS at q1
    split at q1
    · rename_i l
      obtain ⟨v, rfl, hv⟩ := all1 hvs
      obtain ⟨a, xs, rfl, s1, a1⟩ := dlst hv
      split at q1
      · rename_i ok
        rcases ok with ⟨ok, hl, hs⟩ | ⟨ok, hl⟩
        · obtain ⟨ns, en⟩ := Option.isSome_iff_exists.mp ok
          have el := intsOf_eq en
          subst el
          rw [DpAll.ints a1] at s1
          rw [List.length_map] at hl
          refine .inl ⟨a, ns, rfl, hK ▸ SqL.le E1.sub s1, by have := scan_big; omega, fun t c ht hcnt _ => ?_⟩
          have E2 := E1.fresh (o := SetO X.w t (fun j => decide (j ∈ ns)) c) ht
          obtain ⟨L, eL, _, hL⟩ := set_intsL ns
          have h64 : c < 64 := by
            have h1 := hcnt L fun k hk => (hL k).mpr hk
            have h2 : (setD (ns.map PyData.int)).length = L.length := by rw [eL, List.length_map]
            omega
          refine .inr (.inl ⟨t, _, c, rfl, upd_same, h64, fun ns' p ha hm hlen hn => ?_⟩)
          obtain ⟨e1, e2, e3, e4, e5⟩ := E2.newl (vs := ns'.map V.int) hn
          refine q1 _ G1 e1 Le.refl p _ e2 e3 e4 e5 ?_ ?_
          · rw [List.length_map, hlen, line_eq]; omega
          · rw [set_ints ha fun k => (hm k).trans decide_eq_true_iff]; exact DpAll.of_ints ns'
        · obtain ⟨ks, rfl, rfl, hks⟩ := addrs_of a1 (ok_of_tups ok)
          rw [List.length_map] at hl
          obtain ⟨n, hn1, hall⟩ := tupsOk_all ok
          have hx : ∀ p ∈ ks, p.2.length = n ∧ TS.Bd BB p.2 ∧ rankD (.tuple (p.2.map .int)) = TS.code BB p.2 := fun p hp => by
            obtain ⟨ns, e0, h1, h2, h3⟩ := okTup_eq (hall _ (List.mem_map.mpr ⟨p, hp, rfl⟩))
            have e1 : p.2.map PyData.int = ns.map PyData.int := by injection e0
            have e2 : p.2 = ns := by
              have := congrArg intsOf e1
              rw [intsOf_map, intsOf_map] at this
              exact Option.some.inj this
            subst e2
            exact ⟨h1, h2, h3⟩
          refine .inr ⟨a, ks, rfl, hK ▸ SqL.le E1.sub s1, fun p hp => hK ▸ SqT.le E1.sub (hks p hp), hl, fun t L ht hL1 hL2 => ?_⟩
          have E2 := E1.fresh (o := SetTO X.prog X.w t L) ht
          refine .inr (.inr ⟨t, L, n, BB, rfl, upd_same, fun p hp => hK ▸ SqT.le E2.sub (hks p (hL1 p hp)), hn1, fun p hp => ⟨(hx p (hL1 p hp)).1, (hx p (hL1 p hp)).2.1⟩, fun L' p hpm hnd hlen hasc hn => ?_⟩)
          obtain ⟨e1, e2, e3, e4, e5⟩ := E2.newl (vs := L'.map fun q => V.ref q.1) hn
          refine q1 _ G1 e1 Le.refl p _ e2 e3 e4 e5 ?_ ?_
          · rw [List.length_map, line_eq]; omega
          · have hsub : ∀ p ∈ L', p ∈ ks := fun p hp => hL1 p (hpm.mem_iff.mp hp)
            have key := dp_addrs (K := B.K) (G := G1) (ks := L') fun p hp => hks p (hsub p hp)
            have i0 := inj_tups ok
            have asc : AscD (L'.map fun p => PyData.tuple (p.2.map .int)) := by
              refine List.pairwise_map.mpr (List.Pairwise.imp_of_mem (fun {x y} hx1 hy1 h => ?_) hasc)
              rw [(hx x (hsub x hx1)).2.2, (hx y (hsub y hy1)).2.2]
              exact h
            have nd : (L'.map fun p => PyData.tuple (p.2.map .int)).Nodup := by
              refine List.pairwise_map.mpr ((List.pairwise_map.mp hnd).imp fun {x y} h e => h ?_)
              have e1 : x.2.map PyData.int = y.2.map PyData.int := by injection e
              have := congrArg intsOf e1
              rw [intsOf_map, intsOf_map] at this
              exact Option.some.inj this
            have sub : ∀ x, x ∈ (L'.map fun p => PyData.tuple (p.2.map .int)) ↔ x ∈ setD (ks.map fun p => PyData.tuple (p.2.map .int)) := fun x => by
              rw [setD_mem i0, List.mem_map, List.mem_map]
              constructor
              · rintro ⟨p, h1, rfl⟩; exact ⟨p, hsub p h1, rfl⟩
              · rintro ⟨p, h1, rfl⟩
                obtain ⟨p', h2, h3⟩ := List.mem_map.mp (hL2 p h1)
                exact ⟨p', hpm.mem_iff.mpr h2, by rw [h3]⟩
            have ii : InjD (L'.map fun p => PyData.tuple (p.2.map .int)) := fun a ha b hb => i0 a (setD_sub _ a ((sub a).mp ha)) b (setD_sub _ b ((sub b).mp hb))
            have pm : (L'.map fun p => PyData.tuple (p.2.map .int)).Perm (setD (ks.map fun p => PyData.tuple (p.2.map .int))) := (List.perm_ext_iff_of_nodup nd (str_nodup (setD_str _))).mpr sub
            have ee := asc_uniq ii asc (str_asc (setD_str _)) pm
            exact ee ▸ key
      · exact False.elim q1
    · exact False.elim q1
end Rf

set_option maxRecDepth 100000
set_option maxHeartbeats 4000000
namespace Rf
open PySem PySem.Spec PyProof.Rows L2
variable {B : Bs} {Wx : WX} {X : Cx}
theorem c_lenSet : CallR X (.builtin "len") (fun vs H Q => ∃ (a : Addr) (S : Int → Bool) (n : Nat), vs = [.ref a] ∧ H a = some (SetO X.w a S n) ∧ n < 2 ^ 62 ∧ Q (.int (n : Nat)) H) := by
  intro pins s σ H vs us Q I r h
  obtain ⟨a, S, n, rfl, ha, hn, q⟩ := h
  rw [Vals.ref1 r]
  obtain ⟨o, es, ep, t, ho, hex, hd, _, _, _, _, hf, hs, _⟩ := setO_get I ha
  refine call_len_set ho hex hd hf (by rw [hs]; omega) ⟨.int (n : Nat), H, I.tok _, ⟨_, by rw [hs]⟩, q⟩
theorem r_lenSet {e : Expr} {p p2 q2 pos : Pos} {fa : Rho → O (List D)} (hK : X.K = B.K) (hc : X.calm = true) (hg : Gl X "len") (hm : X.mg "len" = none) (hg2 : Gl X "set") (hm2 : X.mg "set" = none) (ha : PA X [e] (tEs B Wx fa))
    (he : starEach [e] X.env = (false, eval e X.env) :: starEach [] X.env) (he2 : starEach [.Call (.Name "set" p2) [e] [] q2] X.env = (false, eval (.Call (.Name "set" p2) [e] [] q2) X.env) :: starEach [] X.env) :
    PE X (.Call (.Name "len" p) [.Call (.Name "set" p2) [e] [] q2] [] pos) (tEv B Wx (sSetN fa)) :=
  (pe_callB c_lenSet hg hm (by decide +kernel) (pa_cons (pe_callTy (cr_setI hc) hg2 hm2 boot_set ha (by decide) (by decide) he (by rfl)) pa_nil he2) (by decide) (by decide) he2 (by rfl)).imp' fun σ H Q ⟨S, ρ, G, E, P⟩ => by
    refine ⟨S, ρ, G, E, P.bind.imp fun ds ρ1 H1 G1 E1 le1 q1 vs hvs => ?_⟩
    unfold dSetN at q1
    split at q1
    · rename_i l
      obtain ⟨v, rfl, hv⟩ := all1 hvs
      obtain ⟨a, xs, rfl, s1, a1⟩ := dlst hv
      split at q1
      · rename_i ok
        obtain ⟨ok, hl⟩ := ok
        obtain ⟨ns, en⟩ := Option.isSome_iff_exists.mp ok
        have el := intsOf_eq en
        subst el
        rw [DpAll.ints a1] at s1
        rw [List.length_map] at hl
        refine ⟨a, ns, rfl, hK ▸ SqL.le E1.sub s1, by have := scan_big; omega, fun t c ht hc1 hc2 => ?_⟩
        obtain ⟨L, eL, nL, hL⟩ := set_intsL ns
        have ec : c = (setD (ns.map PyData.int)).length := by
          rw [eL, List.length_map]
          exact Nat.le_antisymm (hc1 L fun k hk => (hL k).mpr hk) (hc2 L nL fun k hk => (hL k).mp hk)
        have cl : c ≤ ns.length := hc1 ns fun k hk => hk
        refine ⟨t, _, c, rfl, upd_same, by omega, ?_⟩
        refine q1 _ G1 (E1.fresh ht) Le.refl _ ?_
        rw [ec]
        exact .int _
      · exact False.elim q1
    · exact False.elim q1
end Rf

set_option maxRecDepth 100000
set_option maxHeartbeats 4000000
namespace Rf
open PySem PySem.Spec PyProof.Rows L2
/-! ### the rules, their side conditions by themselves -/
variable {B : Bs} {Wx : WX} {X : Cx}
def sFrz (f : Rho → O (List D)) : Rho → O D := fun ρ => (f ρ).bind fun l ρ' => .ok (.list l) ρ'
theorem g_var (i : Nat) {x : Str} {pos : Pos} (hN : X.N[i]? = some x := by rfl) (hv : Vis X.env.scope x := by first | exact .inl rfl | exact .inr (.inl rfl) | exact .inr (.inr rfl)) (hd : (x == ("__debug__" : Str)) = false := by decide) (hcd : (x == ("__classdict__" : Str)) = false := by decide) : PE X (.Name x pos) (tEv B Wx (sVar i)) := r_var hN hv hd hcd
theorem g_gint {x : Str} {i : Int} {pos : Pos} (hm : ∃ t, X.mg x = some (.int i t)) (hg : Gl X x := by rfl) (hdb : (x == ("__debug__" : Str)) = false := by decide) : PE X (.Name x pos) (tEv B Wx (sCon (.int i))) :=
  let ⟨t, h⟩ := hm
  r_glob (v := .int i) hg h ⟨t, rfl⟩ (.int i) hdb
theorem g_cons {e : Expr} {es : List Expr} {f : Rho → O D} {g : Rho → O (List D)} (he : PE X e (tEv B Wx f)) (hr : PA X es (tEs B Wx g)) (hs : starEach (e :: es) X.env = (false, eval e X.env) :: starEach es X.env := by rfl) : PA X (e :: es) (tEs B Wx (sCons f g)) := r_cons he hr hs
theorem g_frz {e : Expr} {f : Rho → O (List D)} (h : PE X e (tEo B Wx f)) : PE X e (tEv B Wx (sFrz f)) := pe_frozen h
theorem g_bin {op : Operator} {a b : Expr} {pos : Pos} {fa fb : Rho → O D} (hK : X.K = B.K) (ha : PE X a (tEv B Wx fa)) (hb : PE X b (tEv B Wx fb)) : PE X (.BinOp a op b pos) (tEv B Wx (s2 (dBin op) fa fb)) := r_bin (opD_bin hK op) ha hb
theorem g_cmp {op : CmpOp} {a b : Expr} {pos : Pos} {fa fb : Rho → O D} (hK : X.K = B.K) (hu : X.A.units + 65 < cLine) (ha : PE X a (tEv B Wx fa)) (hb : PE X b (tEv B Wx fb)) (hm : behindInMarks op b = false := by rfl) : PE X (.Compare a [op] [b] pos) (tEv B Wx (s2 (bCmp op) fa fb)) := r_cmp (opD_cmp hK hu op) ha hb hm
theorem gt_cmp {op : CmpOp} {a b : Expr} {pos : Pos} {fa fb : Rho → O D} (hK : X.K = B.K) (hu : X.A.units + 65 < cLine) (ha : PE X a (tEv B Wx fa)) (hb : PE X b (tEv B Wx fb)) (hm : behindInMarks op b = false := by rfl) : PT X (.Compare a [op] [b] pos) (tEt B Wx (s2 (bCmp op) fa fb)) := rt_cmp (opD_cmp hK hu op) ha hb hm
theorem g_cmp2 {op op' : CmpOp} {a b c : Expr} {pos : Pos} {fa fb fc : Rho → O D} (hK : X.K = B.K) (hu : X.A.units + 65 < cLine) (ha : PE X a (tEv B Wx fa)) (hb : PE X b (tEv B Wx fb)) (hc : PE X c (tEv B Wx fc)) (hm : lastMarks [op, op'] [b, c] = false := by rfl) : PE X (.Compare a [op, op'] [b, c] pos) (tEv B Wx (sCmp2 op op' fa fb fc)) := r_cmp2 (opD_cmp hK hu op) (opD_cmp hK hu op') ha hb hc hm
theorem gt_cmp2 {op op' : CmpOp} {a b c : Expr} {pos : Pos} {fa fb fc : Rho → O D} (hK : X.K = B.K) (hu : X.A.units + 65 < cLine) (ha : PE X a (tEv B Wx fa)) (hb : PE X b (tEv B Wx fb)) (hc : PE X c (tEv B Wx fc)) (hm : lastMarks [op, op'] [b, c] = false := by rfl) : PT X (.Compare a [op, op'] [b, c] pos) (tEt B Wx (sCmp2 op op' fa fb fc)) := rt_cmp2 (opD_cmp hK hu op) (opD_cmp hK hu op') ha hb hc hm
theorem gt_val {e : Expr} {f : Rho → O D} (h : PE X e (tEv B Wx f)) (he : ∀ whole, isTrue e X.env whole = (do let v ← whole; standAt e.pos; holding [v] (truthy v)) := by intro _; rfl) : PT X e (tEt B Wx f) := rt_val h he
theorem g_ix {a b : Expr} {pos : Pos} {fa fb : Rho → O D} (hK : X.K = B.K) (ha : PE X a (tEv B Wx fa)) (hb : PE X b (tEv B Wx fb)) (hs : PlainIx b := by exact fun _ _ => rfl) : PE X (.Subscript a b pos) (tEv B Wx (s2 dIx fa fb)) := r_ix hK ha hb hs
theorem g_ixv (i : Nat) {x : Str} {b : Expr} {ps pos : Pos} {fb : Rho → O D} (hK : X.K = B.K) (hb : PE X b (tEv B Wx fb)) (hN : X.N[i]? = some x := by rfl) (hv : Vis X.env.scope x := by first | exact .inl rfl | exact .inr (.inl rfl) | exact .inr (.inr rfl)) (hd : (x == ("__debug__" : Str)) = false := by decide) (hcd : (x == ("__classdict__" : Str)) = false := by decide) (hs : PlainIx b := by exact fun _ _ => rfl) :
    PE X (.Subscript (.Name x ps) b pos) (tEv B Wx (sIxv i fb)) := r_ixv hK hN hv hd hcd hb hs
theorem gg_name (i : Nat) {x : Str} {pos : Pos} (hN : X.N.Nodup) (hi : X.N[i]? = some x := by rfl) (hx : Loc X.env.scope x := by first | exact .inl rfl | exact .inr rfl) (hf : X.fn x = true ∨ X.env.scope.names.lookup x = some .local := by first | exact .inl rfl | exact .inr rfl) : PG X (.Name x pos) (tTg B (.nm i)) := rg_name hN hi hx hf
theorem ggs_cons (i : Nat) {is : List Nat} {x : Str} {pos : Pos} {es : List Expr} (hN : X.N.Nodup) (h : PGs X es (tTgs B is)) (hi : X.N[i]? = some x := by rfl) (hx : Loc X.env.scope x := by first | exact .inl rfl | exact .inr rfl) (hf : X.fn x = true ∨ X.env.scope.names.lookup x = some .local := by first | exact .inl rfl | exact .inr rfl)
    (hs : (assignEach (.Name x pos :: es) X.env).map (·.2) = assign (.Name x pos) X.env :: (assignEach es X.env).map (·.2) := by rfl) : PGs X (.Name x pos :: es) (tTgs B (i :: is)) := rgs_cons hN hi hx hf h hs
theorem gg_tup {is : List Nat} {es : List Expr} {k : Nat} {pos : Pos} (hK : X.K = B.K) (hc : X.calm = true) (h : PGs X es (tTgs B is)) (hn : (assignEach es X.env).length = is.length := by rfl) (hst : (assignEach es X.env).findIdx? (·.1) = none := by rfl) : PG X (.Tuple es k pos) (tTg B (.tp is)) := rg_tup hK hc h hn hst
theorem sc1 {f : Rho → O D} : ∀ ρ ds ρ1, sCons f sNil ρ = .ok ds ρ1 → ds.length = 1 := fun ρ ds ρ1 h => by
  unfold sCons sNil at h
  cases e : f ρ with
  | ok x ρ2 => rw [e] at h; cases h; rfl
  | ex _ _ => rw [e] at h; cases h
  | no => rw [e] at h; cases h
theorem sc2 {f g : Rho → O D} : ∀ ρ ds ρ1, sCons f (sCons g sNil) ρ = .ok ds ρ1 → ds.length = 2 := fun ρ ds ρ1 h => by
  unfold sCons sNil at h
  cases e : f ρ with
  | ok x ρ2 =>
    rw [e] at h
    cases e2 : g ρ2 with
    | ok y ρ3 =>
      have h : (O.bind (O.bind (g ρ2) fun x ρ1 => O.bind (.ok [] ρ1) fun xs ρ2 => .ok (x :: xs) ρ2) fun xs ρ2 => O.ok (x :: xs) ρ2) = .ok ds ρ1 := h
      rw [e2] at h; cases h; rfl
    | ex _ _ =>
      have h : (O.bind (O.bind (g ρ2) fun x ρ1 => O.bind (.ok [] ρ1) fun xs ρ2 => .ok (x :: xs) ρ2) fun xs ρ2 => O.ok (x :: xs) ρ2) = .ok ds ρ1 := h
      rw [e2] at h; cases h
    | no =>
      have h : (O.bind (O.bind (g ρ2) fun x ρ1 => O.bind (.ok [] ρ1) fun xs ρ2 => .ok (x :: xs) ρ2) fun xs ρ2 => O.ok (x :: xs) ρ2) = .ok ds ρ1 := h
      rw [e2] at h; cases h
  | ex _ _ => rw [e] at h; cases h
  | no => rw [e] at h; cases h
theorem gi_rng1 {tg a : Expr} {p pos : Pos} {fa : Rho → O D} (hm : X.mg "range" = none) (ha : PE X a (tEv B Wx fa)) (hg : Gl X "range" := by rfl) (hs : starEach [a] X.env = [(false, eval a X.env)] := by rfl) : PI X tg (.Call (.Name "range" p) [a] [] pos) (tIt B Wx (sRng (sCons fa sNil))) := ri_rng1 hg hm (r_cons ha r_nil hs) hs sc1
theorem gi_rng2 {tg a b : Expr} {p pos : Pos} {fa fb : Rho → O D} (hm : X.mg "range" = none) (ha : PE X a (tEv B Wx fa)) (hb : PE X b (tEv B Wx fb)) (hg : Gl X "range" := by rfl) (hs : starEach [a, b] X.env = [(false, eval a X.env), (false, eval b X.env)] := by rfl) (hs2 : starEach [b] X.env = [(false, eval b X.env)] := by rfl) :
    PI X tg (.Call (.Name "range" p) [a, b] [] pos) (tIt B Wx (sRng (sCons fa (sCons fb sNil)))) := ri_rng2 hg hm (r_cons ha (r_cons hb r_nil hs2) (by rw [hs2]; exact hs)) hs hs2 sc2
theorem gi_zip {e e2 : Expr} {p pos tpos : Pos} {elts : List Expr} {kk : Nat} {fa fb : Rho → O D} (hK : X.K = B.K) (hm : X.mg "zip" = none) (ha : PE X e (tEv B Wx fa)) (hb : PE X e2 (tEv B Wx fb)) (hg : Gl X "zip" := by rfl) (hs : starEach [e, e2] X.env = (false, eval e X.env) :: starEach [e2] X.env := by rfl) (hs2 : starEach [e2] X.env = (false, eval e2 X.env) :: starEach [] X.env := by rfl) (hpl : (backTo pos (starEach [e2] X.env)).any (·.1) = false := by rfl) :
    PI X (.Tuple elts kk tpos) (.Call (.Name "zip" p) [e, e2] [] pos) (tIt B Wx (sZip (sCons fa (sCons fb sNil)))) := ri_zip hK hg hm (r_cons ha (r_cons hb r_nil hs2) hs) hs hpl
theorem gi_enum {e : Expr} {p pos tpos : Pos} {elts : List Expr} {kk : Nat} {fa : Rho → O D} (hK : X.K = B.K) (hm : X.mg "enumerate" = none) (ha : PE X e (tEv B Wx fa)) (hg : Gl X "enumerate" := by rfl) (hs : starEach [e] X.env = [(false, eval e X.env)] := by rfl) :
    PI X (.Tuple elts kk tpos) (.Call (.Name "enumerate" p) [e] [] pos) (tIt B Wx (sEnum (sCons fa sNil))) := ri_enum hK hg hm (r_cons ha r_nil hs) hs
theorem g_callB {id : String} {x : Str} {g : List D → Option D} {e : Expr} {es : List Expr} {p pos : Pos} {fa : Rho → O (List D)} (hc : CallR X (.builtin id) (rC B g)) (hm : X.mg x = none) (ha : PA X (e :: es) (tEs B Wx fa)) (hg : Gl X x := by rfl) (hv : bootBuiltins x = some (.builtin id) := by decide +kernel) (hn : x ≠ "__name__" := by decide) (hdb : (x == ("__debug__" : Str)) = false := by decide)
    (he : starEach (e :: es) X.env = (false, eval e X.env) :: starEach es X.env := by rfl) (hpl : (backTo pos (starEach es X.env)).any (·.1) = false := by rfl) : PE X (.Call (.Name x p) (e :: es) [] pos) (tEv B Wx (sCall g fa)) := r_callB hc hg hm hv ha hn hdb he hpl
theorem g_callTy {id : String} {x : Str} {g : List D → Option D} {e : Expr} {es : List Expr} {p pos : Pos} {fa : Rho → O (List D)} (hc : CallR X (.type id) (rC B g)) (hm : X.mg x = none) (ha : PA X (e :: es) (tEs B Wx fa)) (hg : Gl X x := by rfl) (hv : bootBuiltins x = some (.type id) := by decide +kernel) (hn : x ≠ "__name__" := by decide) (hdb : (x == ("__debug__" : Str)) = false := by decide)
    (he : starEach (e :: es) X.env = (false, eval e X.env) :: starEach es X.env := by rfl) (hpl : (backTo pos (starEach es X.env)).any (·.1) = false := by rfl) : PE X (.Call (.Name x p) (e :: es) [] pos) (tEv B Wx (sCall g fa)) := r_callTy hc hg hm hv ha hn hdb he hpl
theorem g_isi {e : Expr} {T : String} {t : Str} {p q pos : Pos} {fa : Rho → O D} (hK : X.K = B.K) (hm : X.mg "isinstance" = none) (hmt : X.mg t = none) (he : PE X e (tEv B Wx fa)) (hT : tyKnown T = true := by decide) (hvt : bootBuiltins t = some (.type T) := by decide +kernel) (hg : Gl X "isinstance" := by rfl) (hgt : Gl X t := by rfl) (hnt : t ≠ "__name__" := by decide) (hdt : (t == ("__debug__" : Str)) = false := by decide)
    (hs : starEach [e, .Name t q] X.env = (false, eval e X.env) :: starEach [.Name t q] X.env := by rfl) : PE X (.Call (.Name "isinstance" p) [e, .Name t q] [] pos) (tEv B Wx (sIsi fa T)) := r_isi hK hT hg hm hgt hmt hvt hnt hdt he hs
theorem g_listOf {e : Expr} {p pos : Pos} {fa : Rho → O D} (hK : X.K = B.K) (hm : X.mg "list" = none) (ha : PE X e (tEv B Wx fa)) (hg : Gl X "list" := by rfl) (he : starEach [e] X.env = (false, eval e X.env) :: starEach [] X.env := by rfl) : PE X (.Call (.Name "list" p) [e] [] pos) (tEo B Wx (sListOf (sCons fa sNil))) := r_listOf hK hg hm (r_cons ha r_nil he) he
theorem g_sorted {e : Expr} {p pos : Pos} {fa : Rho → O D} (hK : X.K = B.K) (hc : X.calm = true) (hm : X.mg "sorted" = none) (ha : PE X e (tEv B Wx fa)) (hg : Gl X "sorted" := by rfl) (he : starEach [e] X.env = (false, eval e X.env) :: starEach [] X.env := by rfl) :
    PE X (.Call (.Name "sorted" p) [e] [] pos) (tEo B Wx (sSorted (sCons fa sNil))) := r_sorted hK hc hg hm (r_cons ha r_nil he) he
theorem g_sortSet {e : Expr} {p p2 q2 pos : Pos} {fa : Rho → O D} (hK : X.K = B.K) (hc : X.calm = true) (hu : X.A.units + 65 < cLine) (hm : X.mg "sorted" = none) (hm2 : X.mg "set" = none) (ha : PE X e (tEv B Wx fa)) (hg : Gl X "sorted" := by rfl) (hg2 : Gl X "set" := by rfl) (he : starEach [e] X.env = (false, eval e X.env) :: starEach [] X.env := by rfl)
    (he2 : starEach [.Call (.Name "set" p2) [e] [] q2] X.env = (false, eval (.Call (.Name "set" p2) [e] [] q2) X.env) :: starEach [] X.env := by rfl) : PE X (.Call (.Name "sorted" p) [.Call (.Name "set" p2) [e] [] q2] [] pos) (tEo B Wx (sSetS (sCons fa sNil))) := r_sortSet hK hc hu hg hm hg2 hm2 (r_cons ha r_nil he) he he2
theorem g_lenSet {e : Expr} {p p2 q2 pos : Pos} {fa : Rho → O D} (hK : X.K = B.K) (hc : X.calm = true) (hm : X.mg "len" = none) (hm2 : X.mg "set" = none) (ha : PE X e (tEv B Wx fa)) (hg : Gl X "len" := by rfl) (hg2 : Gl X "set" := by rfl) (he : starEach [e] X.env = (false, eval e X.env) :: starEach [] X.env := by rfl)
    (he2 : starEach [.Call (.Name "set" p2) [e] [] q2] X.env = (false, eval (.Call (.Name "set" p2) [e] [] q2) X.env) :: starEach [] X.env := by rfl) : PE X (.Call (.Name "len" p) [.Call (.Name "set" p2) [e] [] q2] [] pos) (tEv B Wx (sSetN (sCons fa sNil))) := r_lenSet hK hc hg hm hg2 hm2 (r_cons ha r_nil he) he he2
theorem g_callD {lv n : Nat} {x : Str} {f : FSem} {e : Expr} {es : List Expr} {p pos : Pos} {fa : Rho → O (List D)} (hK : X.K = B.K) (F : FnGood B X.prog X.w X.mg X.base lv x n f) (hr : Room lv X.A) (tk : L2N.Takes X Wx) (ha : PA X (e :: es) (tEs B Wx fa)) (hg : Gl X x := by rfl) (hdb : (x == ("__debug__" : Str)) = false := by decide)
    (he : starEach (e :: es) X.env = (false, eval e X.env) :: starEach es X.env := by rfl) (hpl : (backTo pos (starEach es X.env)).any (·.1) = false := by rfl) : PE X (.Call (.Name x p) (e :: es) [] pos) (tEv B Wx (sCallD f fa)) := r_callD hK F hr hg tk ha hdb he hpl
theorem g_callO {lv n : Nat} {x : Str} {f : FSem} {e : Expr} {es : List Expr} {p pos : Pos} {fa : Rho → O (List D)} (hK : X.K = B.K) (F : FnGood B X.prog X.w X.mg X.base lv x n f) (hr : Room lv X.A) (tk : L2N.Takes X Wx) (ha : PA X (e :: es) (tEs B Wx fa)) (hg : Gl X x := by rfl) (hdb : (x == ("__debug__" : Str)) = false := by decide)
    (he : starEach (e :: es) X.env = (false, eval e X.env) :: starEach es X.env := by rfl) (hpl : (backTo pos (starEach es X.env)).any (·.1) = false := by rfl) : PE X (.Call (.Name x p) (e :: es) [] pos) (tEo B Wx (sCallO f fa)) := r_callO hK F hr hg tk ha hdb he hpl
theorem g_callK {lv n : Nat} {x : Str} {f : FSem} {e : Expr} {es : List Expr} {p pos : Pos} {fa : Rho → O (List D)} (hK : X.K = B.K) (F : FnGood B X.prog X.w X.mg X.base lv x n f) (hr : Room lv X.A) (tk : L2N.Takes X Wx) (ha : PA X (e :: es) (tEs B Wx fa)) (hg : Gl X x := by rfl) (hdb : (x == ("__debug__" : Str)) = false := by decide)
    (he : starEach (e :: es) X.env = (false, eval e X.env) :: starEach es X.env := by rfl) (hpl : (backTo pos (starEach es X.env)).any (·.1) = false := by rfl) : PE X (.Call (.Name x p) (e :: es) [] pos) (tEk B Wx (sCallK f fa)) := r_callK hK F hr hg tk ha hdb he hpl
theorem g_callR (i : Nat) {lv n : Nat} {x y : Str} {f : FSem} {es : List Expr} {p py pos : Pos} {fa : Rho → O (List D)} (hK : X.K = B.K) (F : FnGood B X.prog X.w X.mg X.base lv x n f) (hr : Room lv X.A) (tk : L2N.Takes X Wx) (ha : PA X es (tEs B Wx fa)) (hg : Gl X x := by rfl) (hN : X.N[i]? = some y := by rfl) (hv : Vis X.env.scope y := by first | exact .inl rfl | exact .inr (.inl rfl) | exact .inr (.inr rfl)) (hd : (y == ("__debug__" : Str)) = false := by decide) (hcd : (y == ("__classdict__" : Str)) = false := by decide) (hdb : (x == ("__debug__" : Str)) = false := by decide)
    (he : starEach (.Name y py :: es) X.env = (false, eval (.Name y py) X.env) :: starEach es X.env := by rfl) (hpl : (backTo pos (starEach es X.env)).any (·.1) = false := by rfl) : PE X (.Call (.Name x p) (.Name y py :: es) [] pos) (tEv B Wx (sCallR f i fa)) := r_callR hK F hr hg tk hN hv hd hcd ha hdb he hpl
theorem gq_expr {e : Expr} {pos : Pos} {fa : Rho → O Rf.D} (he : PE X e (tEv B Wx fa)) (hs : swapsWith e none pos.line X.env = pure false := by rfl) : PS X (.Expr e pos) (tSt B Wx (sExpr fa)) := q_expr he hs
theorem gq_asg {tg e : Expr} {t : Tg} {pos : Pos} {fa : Rho → O Rf.D} (he : PE X e (tEv B Wx fa)) (hg : PG X tg (tTg B t)) (hs : swapsWithSole [tg] e pos.line X.env = pure false := by rfl) (hw : swappedStores [tg] e X.env = pure none := by rfl) (h1 : (assignEach [tg] X.env).map (·.2) = [assign tg X.env] := by rfl) : PS X (.Assign [tg] e pos) (tSt B Wx (sAsg t fa)) := q_asg he hg hs hw h1
theorem gq_asgO (i : Nat) {x : Str} {e : Expr} {px pos : Pos} {fa : Rho → O (List Rf.D)} (hN : X.N.Nodup) (he : PE X e (tEo B Wx fa)) (hi : X.N[i]? = some x := by rfl) (hx : Loc X.env.scope x := by first | exact .inl rfl | exact .inr rfl) (hf : X.fn x = true ∨ X.env.scope.names.lookup x = some .local := by first | exact .inl rfl | exact .inr rfl)
    (hs : swapsWith e (some (.Name x px)) pos.line X.env = pure false := by rfl) : PS X (.Assign [.Name x px] e pos) (tSt B Wx (sAsgO i fa)) := q_asgO hN hi hx hf he hs
theorem gq_asgK (i : Nat) {x : Str} {e : Expr} {px pos : Pos} {fa : Rho → O (List (List Int))} (hN : X.N.Nodup) (he : PE X e (tEk B Wx fa)) (hi : X.N[i]? = some x := by rfl) (hx : Loc X.env.scope x := by first | exact .inl rfl | exact .inr rfl) (hf : X.fn x = true ∨ X.env.scope.names.lookup x = some .local := by first | exact .inl rfl | exact .inr rfl)
    (hs : swapsWith e (some (.Name x px)) pos.line X.env = pure false := by rfl) : PS X (.Assign [.Name x px] e pos) (tSt B Wx (sAsgK i fa)) := q_asgK hN hi hx hf he hs
theorem gq_par (i j : Nat) {x y : Str} {a b : Expr} {px py pt : Pos} {kt k2 : Nat} {pt2 pos : Pos} {fa fb : Rho → O Rf.D} (hc : X.calm = true) (hN : X.N.Nodup) (ha : PE X a (tEv B Wx fa)) (hb : PE X b (tEv B Wx fb)) (hi : X.N[i]? = some x := by rfl) (hj : X.N[j]? = some y := by rfl) (hij : i ≠ j := by decide) (hx : X.env.scope.names.lookup x = some .local := by rfl) (hy : X.env.scope.names.lookup y = some .local := by rfl)
    (hsa : starEach [a, b] X.env = (false, eval a X.env) :: starEach [b] X.env := by rfl) (hsb : starEach [b] X.env = (false, eval b X.env) :: starEach [] X.env := by rfl)
    (hw : swappedStores [.Tuple [.Name x px, .Name y py] kt pt] (.Tuple [a, b] k2 pt2) X.env = pure (some [x, y]) := by rfl) (hs : swapsWithSole [.Tuple [.Name x px, .Name y py] kt pt] (.Tuple [a, b] k2 pt2) pos.line X.env = pure false := by rfl) : PS X (.Assign [.Tuple [.Name x px, .Name y py] kt pt] (.Tuple [a, b] k2 pt2) pos) (tSt B Wx (sPar i j (sCons fa (sCons fb sNil)))) :=
  q_par hc hN hi hj hij hx hy (r_cons ha (r_cons hb r_nil hsb) hsa) hw hs
theorem gq_parO (i j : Nat) {x y : Str} {a b : Expr} {px py pt : Pos} {kt k2 : Nat} {pt2 pos : Pos} {fa : Rho → O Rf.D} {fb : Rho → O (List Rf.D)} (hc : X.calm = true) (hN : X.N.Nodup) (ha : PE X a (tEv B Wx fa)) (hb : PE X b (tEo B Wx fb)) (hi : X.N[i]? = some x := by rfl) (hj : X.N[j]? = some y := by rfl) (hij : i ≠ j := by decide) (hx : X.env.scope.names.lookup x = some .local := by rfl) (hy : X.env.scope.names.lookup y = some .local := by rfl)
    (hsa : starEach [a, b] X.env = (false, eval a X.env) :: starEach [b] X.env := by rfl) (hsb : starEach [b] X.env = (false, eval b X.env) :: starEach [] X.env := by rfl)
    (hw : swappedStores [.Tuple [.Name x px, .Name y py] kt pt] (.Tuple [a, b] k2 pt2) X.env = pure (some [x, y]) := by rfl) (hs : swapsWithSole [.Tuple [.Name x px, .Name y py] kt pt] (.Tuple [a, b] k2 pt2) pos.line X.env = pure false := by rfl) : PS X (.Assign [.Tuple [.Name x px, .Name y py] kt pt] (.Tuple [a, b] k2 pt2) pos) (tSt B Wx (sParO i j fa fb)) :=
  q_parO hc hN hi hj hij hx hy ha hb hsa hsb hw hs
theorem gq_item (i : Nat) {x : Str} {ei e : Expr} {px ps pos : Pos} {fi fe : Rho → O Rf.D} (hi : PE X ei (tEv B Wx fi)) (he : PE X e (tEv B Wx fe)) (hN : X.N[i]? = some x := by rfl) (hv : Vis X.env.scope x := by first | exact .inl rfl | exact .inr (.inl rfl) | exact .inr (.inr rfl)) (hd : (x == ("__debug__" : Str)) = false := by decide) (hcd : (x == ("__classdict__" : Str)) = false := by decide)
    (ha : ∀ v, assign (.Subscript (.Name x px) ei ps) X.env v = (do let ov ← holding [v] (eval (.Name x px) X.env); let iv ← holding [v, ov] (eval ei X.env); standAt ps; holding [v, ov, iv] (setItem ov iv v); release [v, ov, iv] []) := by intro _; rfl)
    (hs : swapsWithSole [.Subscript (.Name x px) ei ps] e pos.line X.env = pure false := by rfl) (hw : swappedStores [.Subscript (.Name x px) ei ps] e X.env = pure none := by rfl) (h1 : (assignEach [.Subscript (.Name x px) ei ps] X.env).map (·.2) = [assign (.Subscript (.Name x px) ei ps) X.env] := by rfl) : PS X (.Assign [.Subscript (.Name x px) ei ps] e pos) (tSt B Wx (sItem i fi fe)) := q_item hN hv hd hcd hi he ha hs hw h1
theorem gq_app (i : Nat) {x : Str} {e : Expr} {px apos cpos pos : Pos} {fe : Rho → O Rf.D} (he : PE X e (tEv B Wx fe)) (hN : X.N[i]? = some x := by rfl) (hv : Vis X.env.scope x := by first | exact .inl rfl | exact .inr (.inl rfl) | exact .inr (.inr rfl)) (hd : (x == ("__debug__" : Str)) = false := by decide) (hcd : (x == ("__classdict__" : Str)) = false := by decide) (hs : starEach [e] X.env = (false, eval e X.env) :: starEach [] X.env := by rfl)
    (hfew : ((backTo cpos (starEach [e] X.env)).all (fun x => !x.1) && (backToKw cpos (keywordEach [] X.env)).all (fun x => x.1.isSome) && decide ([e].length + ([] : List Keyword).length + (if ([] : List Keyword).isEmpty then 0 else 1) < 30)) = true := by rfl) (hline : (apos.endLine == cpos.line) = true := by rfl)
    (hsw : swapsWith (.Call (.Attribute (.Name x px) "append" apos) [e] [] cpos) none pos.line X.env = pure false := by rfl) : PS X (.Expr (.Call (.Attribute (.Name x px) "append" apos) [e] [] cpos) pos) (tSt B Wx (sApp i fe)) := q_app hN hv hd hcd he hs hfew hline hsw
theorem gq_for {tg iter : Expr} {body : List Stmt} {t : Tg} {pos : Pos} {fi : Rho → O (List Rf.D)} {f : Rho → OS} (hp : PassesOwn (model X.prog X.w) X.A X.env X.xe) (hc : X.calm = true) (hi : PI X tg iter (tIt B Wx fi)) (hg : PG X tg (tTg B t)) (hb : PSs X body (tSt B Wx f)) (hfs : ∀ x, foldedSetIterable iter X.env x = pure x := by intro _; rfl) :
    PS X (.For tg iter body [] pos) (tSt B Wx (sFor t fi f)) := q_for hp hc hi hg hb hfs
abbrev PBl (X : Cx) (scope : Scope) (P : Cx → Prop) : Prop := ∀ (s : Shared) (H : Hp) (C : Addr) (cl : List (Str × Addr)) (fp : List Addr), P (X.blk s H scope (compEnvC scope cl C X.env) fp)
theorem g_lc (own : List (Str × Nat)) {elt tg iter : Expr} {ifs : List Expr} {scope : Scope} {pos : Pos} {t : Tg} {fi : Rho → O (List D)} {fc fe : Rho → O D} (hc : X.calm = true) (hN : X.N.Nodup) (hi : PI X tg iter (tIt B Wx fi)) (hg : PBl X scope fun Y => PG Y tg (tTg B t)) (hf : PBl X scope fun Y => PTs Y ifs (tEt B wNo fc)) (he : PBl X scope fun Y => PE Y elt (tEv B wNo fe))
    (ok : blkC X.N X.env.scope scope own = true := by kernel_rfl) (ht : ∀ i ∈ t.slots, i ∈ own.map (·.2) := by decide) (hs : ∀ x, foldedSetIterable iter X.env x = pure x := by intro _; rfl) : PE X (.ListComp elt [⟨tg, iter, ifs, 0⟩] scope pos) (tEo B Wx (sLc t (own.map (·.2)) fi fc fe)) := r_lc hc hN hi (blkOk_by ok) ht hg hf he hs
theorem gq_lc (i : Nat) (own : List (Str × Nat)) {y : Str} {py : Pos} {elt tg iter : Expr} {ifs : List Expr} {scope : Scope} {pos spos : Pos} {t : Tg} {fi : Rho → O (List D)} {fc fe : Rho → O D} (hc : X.calm = true) (hN : X.N.Nodup) (hi : PI X tg iter (tIt B Wx fi)) (hg : PBl X scope fun Y => PG Y tg (tTg B t)) (hf : PBl X scope fun Y => PTs Y ifs (tEt B wNo fc)) (he : PBl X scope fun Y => PE Y elt (tEv B wNo fe))
    (hy : X.N[i]? = some y := by rfl) (hyl : X.env.scope.names.lookup y = some .local := by rfl) (hsw : swapsWith (.ListComp elt [⟨tg, iter, ifs, 0⟩] scope pos) (some (.Name y py)) spos.line X.env = pure true := by rfl) (ok : blkC X.N X.env.scope scope own = true := by kernel_rfl) (ht : ∀ i ∈ t.slots, i ∈ own.map (·.2) := by decide) (hs : ∀ x, foldedSetIterable iter X.env x = pure x := by intro _; rfl) :
    PS X (.Assign [.Name y py] (.ListComp elt [⟨tg, iter, ifs, 0⟩] scope pos) spos) (tSt B Wx (sAsg (.nm i) (sFrz (sLc t (own.map (·.2)) fi fc fe)))) := q_lc hc hN hy hyl hsw hi (blkOk_by ok) ht hg hf he hs
theorem g_lc2 (own : List (Str × Nat)) (vs1 : List Nat) {elt tg iter tg1 iter1 : Expr} {ifs ifs1 : List Expr} {scope : Scope} {pos : Pos} {t t1 : Tg} {fi fi1 : Rho → O (List D)} {fc fc1 fe : Rho → O D} (hc : X.calm = true) (hN : X.N.Nodup) (hi : PI X tg iter (tIt B Wx fi)) (hg : PBl X scope fun Y => PG Y tg (tTg B t)) (hf : PBl X scope fun Y => PTs Y ifs (tEt B wNo fc)) (hi1 : PBl X scope fun Y => PI Y tg1 iter1 (tIt B wNo fi1)) (hg1 : PBl X scope fun Y => PG Y tg1 (tTg B t1)) (hf1 : PBl X scope fun Y => PTs Y ifs1 (tEt B wNo fc1)) (he : PBl X scope fun Y => PE Y elt (tEv B wNo fe))
    (ok : blkC X.N X.env.scope scope own = true := by kernel_rfl) (hv : ∀ i ∈ vs1, i ∈ own.map (·.2) := by decide) (ht : ∀ i ∈ t.slots, i ∈ own.map (·.2) := by decide) (ht1 : ∀ i ∈ t1.slots, i ∈ vs1 := by decide) (hs : ∀ x, foldedSetIterable iter X.env x = pure x := by intro _; rfl) (hs1 : ∀ env x, foldedSetIterable iter1 env x = pure x := by intro _ _; rfl) :
    PE X (.ListComp elt [⟨tg, iter, ifs, 0⟩, ⟨tg1, iter1, ifs1, 0⟩] scope pos) (tEo B Wx (sLc2 t (own.map (·.2)) fi fc fi1 t1 vs1 fc1 fe)) := r_lc2 hc hN hi (blkOk_by ok) hv ht ht1 hg hf hi1 hg1 hf1 he hs hs1
theorem room_u {k : Nat} {A : Around} (h : Room k A) : A.units + 65 < cLine := by have := h.un; omega
end Rf

set_option maxRecDepth 100000
set_option maxHeartbeats 4000000
namespace Rf
open PySem PySem.Spec PyProof.Rows L2
/-- a def that the text's top binds -/
structure Def1 (B : Bs) (mg : Str → Option Value) (x : Str) (st : Stmt) (ps : List Str) : Prop where
  ex : ∃ a fd, Fun B.K x x st a fd ∧ Binds B.K fd ps [] ∧ mg x = some (.ref a)
section
variable {B : Bs} {P : Program} {w : World} {mg : Str → Option Value} {base : Heap}
theorem good_D1 {x : Str} {st : Stmt} {N ps : List Str} {k : Nat} {fn : Rho → OS} (d : Def1 B mg x st ps) (S : FnScope N ps (defScope st))
    (hbody : ∀ (f : Addr) (cdv : Value) (A : Around) (outer : List Env) (s : Shared) (H : Hp) (E : XK), Room k (A.deeper (envOfC x (defScope st) s.heap.objs.size f cdv)) →
      PSs (cxOf (L2N.CX P w) P w B.K mg base N x (defScope st) f cdv A outer s H E) (defBody st) (tSt B (wishOf E) fn)) : FnGood B P w mg base (k + 1) x ps.length (mD (runD ps.length N.length fn)) :=
  let ⟨a, fd, F, hb, hm⟩ := d.ex
  good_D F S hb hm (hbody a)
theorem good_R1 {x : Str} {st : Stmt} {N ps : List Str} {k : Nat} {fn : Rho → OS} (d : Def1 B mg x st ps) (S : FnScope N ps (defScope st))
    (hbody : ∀ (f : Addr) (cdv : Value) (A : Around) (outer : List Env) (s : Shared) (H : Hp) (E : XK), Room k (A.deeper (envOfC x (defScope st) s.heap.objs.size f cdv)) →
      PSs (cxOf (L2N.CX P w) P w B.K mg base N x (defScope st) f cdv A outer s H E) (defBody st) (tSt B (wishOf E) fn)) : FnGood B P w mg base (k + 1) x ps.length (mR (runR ps.length N.length fn)) :=
  let ⟨a, fd, F, hb, hm⟩ := d.ex
  good_R F S hb hm (hbody a)
end
end Rf

set_option maxRecDepth 100000
set_option maxHeartbeats 4000000
namespace Rf
open PySem PySem.Spec PyProof.Rows L2
/-! ### dicts whose keys are tuples of ints -/
theorem tupV (ns : List Int) : (ns.map (Sum.inl : Int → Key)).map kV = ns.map V.int := by rw [List.map_map]; rfl
theorem inl_inj {ns ms : List Int} (h : ns.map (Sum.inl : Int → Key) = ms.map Sum.inl) : ns = ms := by
  induction ns generalizing ms with
  | nil => cases ms with
    | nil => rfl
    | cons m ms => cases h
  | cons n ns ih => cases ms with
    | nil => cases h
    | cons m ms =>
      rw [List.map_cons, List.map_cons] at h
      injection h with h1 h2
      injection h1 with h1
      rw [h1, ih h2]
abbrev dkL (ks : List (List Int)) : List (List Key × V) := ks.map fun k => (k.map Sum.inl, V.bl true)
theorem dk_val (ns : List Int) : ∀ ks : List (List Int), valV (dkL ks) (ns.map Sum.inl) = if ns ∈ ks then some (V.bl true) else none
  | [] => rfl
  | k :: ks => by
    unfold valV dkL
    rw [List.map_cons, List.find?_cons]
    by_cases e : k = ns
    · subst e
      rw [if_pos List.mem_cons_self]
      simp
    · have e1 : ¬ (k.map (Sum.inl : Int → Key) = ns.map Sum.inl) := fun z => e (inl_inj z)
      have e2 := dk_val ns ks
      unfold valV dkL at e2
      simp only [e1, decide_false]
      rw [e2]
      by_cases m : ns ∈ ks
      · rw [if_pos m, if_pos (List.mem_cons_of_mem _ m)]
      · rw [if_neg m, if_neg (fun z => by rcases List.mem_cons.mp z with z | z; exact e z.symm; exact m z)]
def putL (ks : List (List Int)) (ns : List Int) : List (List Int) := if ns ∈ ks then ks else ks ++ [ns]
theorem dk_put (ks : List (List Int)) (ns : List Int) : putK (dkL ks) (ns.map Sum.inl) (V.bl true) = dkL (putL ks ns) := by
  have ha : ((dkL ks).any fun kv => decide (kv.1 = ns.map Sum.inl)) = decide (ns ∈ ks) := by
    rw [Bool.eq_iff_iff, List.any_eq_true, decide_eq_true_iff]
    constructor
    · rintro ⟨kv, h1, h2⟩
      obtain ⟨k, hk, rfl⟩ := List.mem_map.mp h1
      rw [← inl_inj (of_decide_eq_true h2)]; exact hk
    · intro h
      exact ⟨_, List.mem_map.mpr ⟨ns, h, rfl⟩, decide_eq_true rfl⟩
  unfold putK putL
  rw [ha]
  by_cases m : ns ∈ ks
  · rw [if_pos (decide_eq_true m), if_pos m]
    unfold dkL
    rw [List.map_map]
    refine List.map_congr_left fun k hk => ?_
    show (if k.map Sum.inl = ns.map Sum.inl then _ else _) = _
    split <;> rfl
  · rw [if_neg (by simpa using m), if_neg m]
    unfold dkL
    rw [List.map_append]; rfl
section
variable {B : Bs} {S : Sit} {ρ : Rho} {σ : St} {H G : Hp}
/-- the dict of a slot is changed -/
theorem EnvOk.redct (E : EnvOk B S ρ σ H G) {i : Nat} {ks ks' : List (List Int)} {a : Addr} (h : ρ[i]? = some (some (.dct ks))) (ha : σ[i]? = some (some (.ref a))) : EnvOk B S (ρ.set i (some (.dct ks'))) σ (upd H a (dkOf ks')) G := by
  obtain ⟨a', k1, k2, k3, k4⟩ := E.dct i ks h
  rw [ha] at k1; cases k1
  have hl : i < ρ.length := (List.getElem?_eq_some_iff.mp h).1
  have hh : ∀ {j : Nat} {l : List Rf.D}, Hd (ρ.set i (some (.dct ks'))) j l → i ≠ j ∧ Hd ρ j l := fun {j l} h => h.of_set fun m => ⟨(fun z => nomatch z), (fun z => nomatch z)⟩
  exact {
    sub := fun b o e => by rw [upd_ne (ne_of_none e k3)]; exact E.sub b o e
    nt := E.nt
    sz := E.sz
    j := B.js H _ E.j fun b o e n n2 => by
      rw [upd_ne]
      · exact e
      · intro z; rw [z, k2] at e; exact n2 ks (Option.some.inj e).symm
    keep := fun b o e n t => by
      rw [upd_ne (fun z => n (by rw [z]; exact k4))]
      exact E.keep b o e n t
    there := fun b e => by
      by_cases q : b = a
      · rw [q, upd_same] at e; cases e
      · rw [upd_ne q] at e; exact E.there b e
    gsub := E.gsub
    gnew := E.gnew
    len := by rw [List.length_set]; exact E.len
    dat := fun j d h => by
      rcases get_set h with ⟨_, z⟩ | ⟨q, z⟩
      · cases z
      · exact E.dat j d z
    dct := fun j ks2 h2 => by
      rcases get_set h2 with ⟨q, z⟩ | ⟨q, z⟩
      · subst q; cases z
        exact ⟨a, ha, upd_same, k3, k4⟩
      · exact absurd (E.dnq i j ks ks2 h z) q
    raw := fun j v h => by
      rcases get_set h with ⟨_, z⟩ | ⟨q, z⟩
      · cases z
      · exact E.raw j v z
    rel := fun j k d h => by
      rcases get_set h with ⟨_, z⟩ | ⟨q, z⟩
      · cases z
      · exact E.rel j k d z
    dnq := fun j k ks1 ks2 h1 h2 => by
      have q : ∀ {j : Nat} {ks0 : List (List Int)}, (ρ.set i (some (.dct ks')))[j]? = some (some (C.dct ks0)) → i = j := fun {j ks0} h3 => by
        rcases get_set h3 with ⟨q, _⟩ | ⟨_, z⟩
        · exact q
        · exact E.dnq i j ks ks0 h z
      rw [← q h1, ← q h2]
    held := fun j l h => by
      obtain ⟨q, z⟩ := hh h
      obtain ⟨c, vs, m1, m2, m3, m4, m5⟩ := E.held j l z
      refine ⟨c, vs, m1, ?_, m3, m4, m5⟩
      rw [upd_ne]
      · exact m2
      · intro z; rw [z, k2] at m2; exact dk_lst _ (Option.some.inj m2)
    ref := fun j l h => by
      rcases get_set h with ⟨_, z⟩ | ⟨q, z⟩
      · cases z
      · exact E.ref j l z
    sep := fun j k l m hjk h1 h2 => E.sep j k l m hjk (hh h1).2 (hh h2).2
    isref := fun j l h' => by
      obtain ⟨l', h''⟩ := E.isref j l h'
      by_cases q : i = j
      · subst q; rw [h] at h''; cases h''
      · exact ⟨l', by rw [List.getElem?_set_ne q]; exact h''⟩ }
end
section
variable {B : Bs} {Wx : WX} {X : Cx}
def dctAt (ρ : Rho) (i : Nat) : Option (List (List Int)) := match ρ[i]? with
  | some (some (.dct ks)) => some ks
  | _ => none
theorem dctAt_eq {ρ : Rho} {i : Nat} {ks : List (List Int)} (h : dctAt ρ i = some ks) : ρ[i]? = some (some (.dct ks)) := by
  unfold dctAt at h
  split at h
  · rename_i k e; cases h; exact e
  · cases h
/-- return name, a dict -/
def sRetK (i : Nat) : Rho → OS := fun ρ => match dctAt ρ i with
  | some ks => .retK ks ρ
  | none => .no
theorem q_retK (i : Nat) {x : Str} {p pos : Pos} (hN : X.N[i]? = some x := by rfl) (hv : Vis X.env.scope x := by first | exact .inl rfl | exact .inr (.inl rfl) | exact .inr (.inr rfl)) (hd : (x == ("__debug__" : Str)) = false := by decide) (hcd : (x == ("__classdict__" : Str)) = false := by decide) :
    PS X (.Return (some (.Name x p)) pos) (tSt B Wx (sRetK i)) :=
  (ps_ret (pe_var hN hv hd hcd)).imp' fun D σ H ⟨S, ρ, G, E, P⟩ => by
    unfold sRetK at P
    cases e : dctAt ρ i with
    | none => rw [e] at P; exact False.elim P
    | some ks =>
      rw [e] at P
      obtain ⟨a, h1, h2, h3, h4⟩ := E.dct i ks (dctAt_eq e)
      exact ⟨_, h1, P σ H G E Le.refl a h2 h3 h4⟩
/-- len(name), a dict -/
def sLenK (i : Nat) : Rho → O Rf.D := fun ρ => match dctAt ρ i with
  | some ks => .ok (.int ks.length) ρ
  | none => .no
theorem g_lenK (i : Nat) {x : Str} {p p2 pos : Pos} (hm : X.mg "len" = none) (hg : Gl X "len" := by rfl) (hN : X.N[i]? = some x := by rfl) (hv : Vis X.env.scope x := by first | exact .inl rfl | exact .inr (.inl rfl) | exact .inr (.inr rfl)) (hd : (x == ("__debug__" : Str)) = false := by decide) (hcd : (x == ("__classdict__" : Str)) = false := by decide)
    (he : starEach [.Name x p2] X.env = (false, eval (.Name x p2) X.env) :: starEach [] X.env := by rfl) : PE X (.Call (.Name "len" p) [.Name x p2] [] pos) (tEv B Wx (sLenK i)) :=
  (pe_callB call_len_dT hg hm (by decide +kernel) (pa_cons (pe_var hN hv hd hcd) pa_nil he) (by decide) (by decide) he (by rfl)).imp' fun σ H Q ⟨S, ρ, G, E, P⟩ => by
    unfold sLenK at P
    cases e : dctAt ρ i with
    | none => rw [e] at P; exact False.elim P
    | some ks =>
      rw [e] at P
      obtain ⟨a, h1, h2, h3, h4⟩ := E.dct i ks (dctAt_eq e)
      refine ⟨_, h1, a, dkL ks, rfl, h2, ?_⟩
      have := P H G E Le.refl (.int ks.length) (.int _)
      unfold dkL; rw [List.length_map]
      exact this
/-- (e, ..) not in name -/
def sNotK (i : Nat) (fa : Rho → O (List Rf.D)) : Rho → O Rf.D := fun ρ => (fa ρ).bind fun ds ρ1 => match intsOf ds, dctAt ρ1 i with
  | some ns, some ks => if ns.length ≤ 1000 then .ok (.bool (!decide (ns ∈ ks))) ρ1 else .no
  | _, _ => .no
theorem gt_notK (i : Nat) {es : List Expr} {k : Nat} {x : Str} {tp p pos : Pos} {fa : Rho → O (List Rf.D)} (hu : X.A.units + 65 < cLine) (ha : PA X es (tEs B Wx fa)) (hN : X.N[i]? = some x := by rfl) (hv : Vis X.env.scope x := by first | exact .inl rfl | exact .inr (.inl rfl) | exact .inr (.inr rfl)) (hd : (x == ("__debug__" : Str)) = false := by decide) (hcd : (x == ("__classdict__" : Str)) = false := by decide)
    (hb : behindInMarks .NotIn (.Name x p) = false := by rfl) : PT X (.Compare (.Tuple es k tp) [.NotIn] [.Name x p] pos) (tEt B Wx (sNotK i fa)) :=
  (pt_cmp (pc_dnotin (by omega) (pe_tup ha) (pe_var hN hv hd hcd)) hb).imp' fun σ H Q ⟨S, ρ, G, E, P⟩ => by
    refine ⟨S, ρ, G, E, P.bind.imp fun ds ρ1 H1 G1 E1 le1 q vs hvs => ?_⟩
    split at q
    · rename_i ns ks en ek
      split at q
      · rename_i hl
        have ed := intsOf_eq en
        subst ed
        have ev := DpAll.ints hvs
        subst ev
        refine ⟨by rw [List.length_map, line_eq]; omega, fun b hb' => ?_⟩
        have E2 := E1.fresh (o := .tup (ns.map V.int)) hb'
        obtain ⟨a, h1, h2, h3, h4⟩ := E2.dct i ks (dctAt_eq ek)
        refine ⟨_, h1, a, _, rfl, .inr ⟨dkL ks, ns.map Sum.inl, b, .inl h2, rfl, by rw [tupV]; exact upd_same, rfl⟩, ?_⟩
        rw [dk_val]
        have e3 : (!(if ns ∈ ks then some (V.bl true) else none : Option V).isSome) = !decide (ns ∈ ks) := by
          by_cases m : ns ∈ ks
          · rw [if_pos m, decide_eq_true m]; rfl
          · rw [if_neg m, decide_eq_false m]; rfl
        rw [e3]
        obtain ⟨b', e4, q⟩ := q _ G1 E2 Le.refl
        cases e4
        exact ⟨_, rfl, q⟩
      · exact False.elim q
    · exact False.elim q
/-- name[e, ..] = True -/
def sPutK (i : Nat) (fa : Rho → O (List Rf.D)) : Rho → OS := fun ρ => match dctAt ρ i with
  | none => .no
  | some _ => (fa ρ).run fun ds ρ1 => match intsOf ds, dctAt ρ1 i with
    | some ns, some ks => if ns.length ≤ 1000 ∧ ks.length < 1000000 then .nx (ρ1.set i (some (.dct (putL ks ns)))) else .no
    | _, _ => .no
theorem gq_putK (i : Nat) {es : List Expr} {k j : Nat} {x : Str} {tp p p2 ps pos : Pos} {fa : Rho → O (List Rf.D)} (hu : X.A.units + 65 < cLine) (ha : PA X es (tEs B Wx fa)) (hN : X.N[i]? = some x := by rfl) (hv : Vis X.env.scope x := by first | exact .inl rfl | exact .inr (.inl rfl) | exact .inr (.inr rfl)) (hd : (x == ("__debug__" : Str)) = false := by decide) (hcd : (x == ("__classdict__" : Str)) = false := by decide)
    (hs : swapsWith (.Constant (.bool true) j p2) (some (.Subscript (.Name x p) (.Tuple es k tp) ps)) pos.line X.env = pure false := by rfl) : PS X (.Assign [.Subscript (.Name x p) (.Tuple es k tp) ps] (.Constant (.bool true) j p2) pos) (tSt B Wx (sPutK i fa)) :=
  (ps_dput (by omega) (pe_var hN hv hd hcd) (pe_tup ha) pe_bl hs).imp' fun D σ H ⟨S, ρ, G, E, P⟩ => by
    unfold sPutK at P
    cases e0 : dctAt ρ i with
    | none => rw [e0] at P; exact False.elim P
    | some ks0 =>
      rw [e0] at P
      obtain ⟨a, hv, _⟩ := E.dct i ks0 (dctAt_eq e0)
      refine ⟨_, hv, S, ρ, G, E, P.run.imp fun ds ρ1 H1 G1 E1 le1 q vs hvs => ?_⟩
      split at q
      · rename_i ns ks en ek
        split at q
        · rename_i hl
          have ed := intsOf_eq en
          subst ed
          have ev := DpAll.ints hvs
          subst ev
          refine ⟨by rw [List.length_map, line_eq]; omega, fun b hb' => ?_⟩
          have E2 := E1.fresh (o := .tup (ns.map V.int)) hb'
          obtain ⟨a', h1, h2, h3, h4⟩ := E2.dct i ks (dctAt_eq ek)
          rw [hv] at h1; cases h1
          refine ⟨a, _, rfl, .inr ⟨dkL ks, ns.map Sum.inl, b, h2, rfl, by rw [tupV]; exact upd_same, by unfold dkL; rw [List.length_map, line_eq]; omega, rfl⟩, ?_⟩
          rw [dk_put]
          exact q σ _ G1 (E2.redct (dctAt_eq ek) hv) Le.refl
        · exact False.elim q
      · exact False.elim q
end
end Rf

set_option maxRecDepth 100000
set_option maxHeartbeats 4000000
namespace Rf
open PySem PySem.Spec PyProof.Rows L2
section
variable {B : Bs} {Wx : WX} {X : Cx}
/-- {(i, j): True} -/
def sDisp (ns : List Int) : Rho → O (List (List Int)) := fun ρ => .ok [ns] ρ
theorem g_disp2 {i j : Int} {k1 k2 kk k4 : Nat} {p1 p2 p3 p4 pos : Pos} (hu : X.A.units + 65 < cLine) (hs : starEach [.Constant (.int i) k1 p1, .Constant (.int j) k2 p2] X.env = (false, eval (.Constant (.int i) k1 p1) X.env) :: starEach [.Constant (.int j) k2 p2] X.env := by rfl) (hs2 : starEach [.Constant (.int j) k2 p2] X.env = (false, eval (.Constant (.int j) k2 p2) X.env) :: starEach [] X.env := by rfl) :
    PE X (.Dict [some (.Tuple [.Constant (.int i) k1 p1, .Constant (.int j) k2 p2] kk p3)] [.Constant (.bool true) k4 p4] pos) (tEk B Wx (sDisp [i, j])) := by
  refine ⟨fun pins s σ H Q I ⟨S, ρ, G, E, P⟩ => ?_⟩
  have hn := I.hok.fresh (Nat.le_refl s.heap.objs.size)
  have I1 := I.laid (a := s.heap.objs.size) (o := .dT []) (h' := s.heap.push { cls := .type "dict", data := .dict #[] }) (t' := s.toks) (fun _ _ q => Heap.get?_push_of_some _ q) (Nat.le_refl _) (dt_empty s.heap I.big)
  refine wpAny_Dict_any (by rfl) rfl (by simp) (by simp) ?_
  refine thn ((pps_cons (pe_tup (pa_cons pe_int (pa_cons pe_int pa_nil hs2) hs)) pe_bl pps_nil).run pins _ σ _ (fun ps H2 => ∃ b, ps = [(V.ref b, V.bl true)] ∧ (upd H s.heap.objs.size (.dT [])) b = none ∧ H2 = upd (upd H s.heap.objs.size (.dT [])) b (.tup [.int i, .int j])) I1 ⟨?_, fun b hb => ⟨b, rfl, hb, rfl⟩⟩) fun ws s2 ⟨ps, H2, I2, rel, b, eps, hb, eH⟩ => ?_
  · show 2 ≤ sizeLine
    rw [line_eq]; omega
  · subst eps
    subst eH
    have nbd : b ≠ s.heap.objs.size := fun z => by
      rw [z, upd_same] at hb; cases hb
    cases rel with
    | @cons p q ps qs r t =>
      cases t
      obtain ⟨r1, r2⟩ := r
      obtain ⟨q1, q2⟩ := q
      obtain rfl : q1 = Value.ref b := r1
      unfold storeAll
      rw [List.forIn_cons]
      have eb : (upd (upd H s.heap.objs.size (.dT [])) b (.tup [.int i, .int j])) b = some (.tup ([Sum.inl i, Sum.inl j].map kV)) := upd_same
      have ed : (upd (upd H s.heap.objs.size (.dT [])) b (.tup [.int i, .int j])) s.heap.objs.size = some (.dT []) := by rw [upd_ne (Ne.symm nbd)]; exact upd_same
      obtain ⟨z, hd, xs, rel, dd⟩ := dt_of I2.hok ed
      have hz : xs.length ≤ sizeLine := by rw [← Paired.length rel]; exact z
      have hl : (putK ([] : List (List Key × V)) [Sum.inl i, Sum.inl j] (.bl true)).length ≤ sizeLine := by
        show 1 ≤ sizeLine
        rw [line_eq]; omega
      refine wpAny_bind (wpAny_bind (wpAny_dictSet_heap (hsz := hz) (show X.A.units < cLine by omega) (key_of I2.hok eb) dd fun h' dd' hs => wpAny_pure ?_))
      show wpAny _ _ (forIn [] PUnit.unit _) _ _ _
      rw [List.forIn_nil]
      refine wpAny_pure ?_
      obtain ⟨o, es, ep, hq, h2, h3, h4, _, h5⟩ := dd'
      refine ⟨.ref s.heap.objs.size, _, d_write (ob := .dT (putK ([] : List (List Key × V)) [Sum.inl i, Sum.inl j] (.bl true))) I2 (by rw [ed]; exact True.intro) hs ⟨o, hq⟩ ⟨hl, hd, _, (rel.put [Sum.inl i, Sum.inl j] eb (show RelV (.bl true) q2 from r2)).keeps fun c ys ec => ?_, o, es, ep, hq, h2, h3, h4, h5⟩, rfl, ?_⟩
      · rw [upd_ne (ne_of ec ed (fun z => nomatch z))]
        exact ec
      · have eH : upd (upd (upd H s.heap.objs.size (.dT [])) b (.tup [.int i, .int j])) s.heap.objs.size (.dT (putK ([] : List (List Key × V)) [Sum.inl i, Sum.inl j] (.bl true))) = upd (upd H s.heap.objs.size (dkOf [[i, j]])) b (.tup [.int i, .int j]) := by
          funext c
          by_cases h1 : c = s.heap.objs.size
          · subst h1
            rw [upd_same, upd_ne (Ne.symm nbd), upd_same]; rfl
          · rw [upd_ne h1]
            by_cases h2 : c = b
            · subst h2; rw [upd_same, upd_same]
            · rw [upd_ne h2, upd_ne h2, upd_ne h1, upd_ne h1]
        rw [eH]
        have hb0 : (upd H s.heap.objs.size (dkOf [[i, j]])) b = none := by
          rw [upd_ne nbd] at hb ⊢; exact hb
        have E2 := (E.fresh (o := dkOf [[i, j]]) hn).fresh (o := .tup [.int i, .int j]) hb0
        exact P _ G E2 Le.refl s.heap.objs.size (by rw [upd_ne (Ne.symm nbd)]; exact upd_same) (E.gnone hn) (S.wn _ (E.there _ hn))
theorem EnvOk.looseK {S : Sit} {ρ : Rho} {σ : St} {H G : Hp} (E : EnvOk B S ρ σ H G) {p : Addr} {ks : List (List Int)} (hp : H p = some (dkOf ks)) : Loose ρ σ p := fun i l h z => by
  obtain ⟨a, vs, h1, h2, _⟩ := E.held i l h
  rw [z] at h1; cases h1
  rw [hp] at h2
  exact dk_lst _ (Option.some.inj h2)
/-- x, y = a dict, a value -/
def sParK (i j : Nat) (fk : Rho → O (List (List Int))) (fb : Rho → O Rf.D) : Rho → OS := fun ρ => (fk ρ).run fun ks ρ1 => if noDct ρ1 ρ1.length = true then (fb ρ1).run fun d ρ2 => match (dctN i ks ρ2).bind (bindN j d) with
    | some ρ3 => .nx ρ3
    | none => .no
  else .no
theorem gq_parK (i j : Nat) {x y : Str} {a b : Expr} {px py pt : Pos} {kt k2 : Nat} {pt2 pos : Pos} {fk : Rho → O (List (List Int))} {fb : Rho → O Rf.D} (hc : X.calm = true) (hN : X.N.Nodup) (ha : PE X a (tEk B Wx fk)) (hb : PE X b (tEv B Wx fb)) (hi : X.N[i]? = some x := by rfl) (hj : X.N[j]? = some y := by rfl) (hij : i ≠ j := by decide) (hx : X.env.scope.names.lookup x = some .local := by rfl) (hy : X.env.scope.names.lookup y = some .local := by rfl)
    (hsa : starEach [a, b] X.env = (false, eval a X.env) :: starEach [b] X.env := by rfl) (hsb : starEach [b] X.env = (false, eval b X.env) :: starEach [] X.env := by rfl)
    (hw : swappedStores [.Tuple [.Name x px, .Name y py] kt pt] (.Tuple [a, b] k2 pt2) X.env = pure (some [x, y]) := by rfl) (hs : swapsWithSole [.Tuple [.Name x px, .Name y py] kt pt] (.Tuple [a, b] k2 pt2) pos.line X.env = pure false := by rfl) : PS X (.Assign [.Tuple [.Name x px, .Name y py] kt pt] (.Tuple [a, b] k2 pt2) pos) (tSt B Wx (sParK i j fk fb)) :=
  (ps_par hc hN hi hj hij hx hy (pa_cons ha (pa_cons hb pa_nil hsb) hsa) hw hs).imp' fun D σ H ⟨S, ρ, G, E, P⟩ => by
    refine ⟨S, ρ, G, E, P.run.imp fun ks ρ1 H1 G1 E1 le1 q p h1 h2 h3 => ?_⟩
    split at q
    rotate_left
    · exact False.elim q
    rename_i nd
    have nd' : ∀ (i : Nat) (ks : List (List Int)), ρ1[i]? = some (some (C.dct ks)) → σ[i]? ≠ some (some (V.ref p)) := fun i ks h _ => by
      have e := noDct_eq nd h
      have hl := (List.getElem?_eq_some_iff.mp h).1
      omega
    refine ⟨Rf.reb ρ1 σ H1 G1, ρ1, G1, E1.reb, ?_⟩
    have qr := q.run (σ := σ)
    cases eb : fb ρ1 with
    | no => rw [eb] at qr; exact qr.elim
    | ex e ρ2 =>
      rw [eb] at qr
      exact fun cls a H2 G2 E2 le2 ex => qr cls a H2 G2 (E1.unreb E2) le2 ex
    | ok d ρ2 =>
      rw [eb] at qr
      intro H2 G2 E2 le2 w hw
      obtain ⟨k1, k2⟩ := E2.reb_keep h1 dk_tbl h2 (E1.looseK h1) nd'
      have E3 := E1.unreb E2
      have q2 := qr H2 G2 E3 le2
      dsimp only at q2
      cases e1 : Rf.dctN i ks ρ2 with
      | none => rw [e1] at q2; exact False.elim q2
      | some ρ3 =>
        rw [e1] at q2
        have q2 : PostS B S Wx G2 (match Rf.bindN j d ρ3 with | some ρ3 => .nx ρ3 | none => .no) D := q2
        cases e2 : Rf.bindN j d ρ3 with
        | none => rw [e2] at q2; exact False.elim q2
        | some ρ4 =>
          rw [e2] at q2
          exact ⟨.ref p, w, rfl, q2 _ H2 G2 ((E3.dctN e1 k1 k2 h3).bindN e2 hw) Le.refl⟩
/-- [pair[c] for pair in name], name a dict -/
def sLcK (i j c : Nat) : Rho → O (List Rf.D) := fun ρ => match dctAt ρ i with
  | some ks => if (ks.all fun k => decide (c < k.length)) = true ∧ ks.length ≤ 1000000 ∧ j < ρ.length then .ok (ks.map fun k => PyData.int (k.getD c 0)) ρ else .no
  | none => .no
theorem g_lcK (i j c : Nat) {x y : Str} {k1 : Nat} {p1 p2 p3 p4 p5 pos : Pos} {scope : Scope} (hc : X.calm = true) (hN : X.N.Nodup) (hNi : X.N[i]? = some x := by rfl) (hNj : X.N[j]? = some y := by rfl)
    (hv : Vis X.env.scope x := by first | exact .inl rfl | exact .inr (.inl rfl) | exact .inr (.inr rfl)) (hd : (x == ("__debug__" : Str)) = false := by decide) (hcd : (x == ("__classdict__" : Str)) = false := by decide) (hd2 : (y == ("__debug__" : Str)) = false := by decide) (hcd2 : (y == ("__classdict__" : Str)) = false := by decide)
    (ok : blkC X.N X.env.scope scope [(y, j)] = true := by kernel_rfl) (hg : PBl X scope fun Y => Loc Y.env.scope y ∧ (Y.fn y = true ∨ Y.env.scope.names.lookup y = some .local) := by exact fun _ _ _ _ _ => ⟨by first | exact .inl rfl | exact .inr rfl, by first | exact .inl rfl | exact .inr rfl⟩)
    (hs : ∀ z, foldedSetIterable (.Name x p4) X.env z = pure z := by intro _; rfl) :
    PE X (.ListComp (.Subscript (.Name y p1) (.Constant (.int c) k1 p2) p3) [⟨.Name y p5, .Name x p4, [], 0⟩] scope pos) (tEo B Wx (sLcK i j c)) :=
  (pe_lock (pe_lc hc hN (pi_keys (pe_var hNi hv hd hcd)) (blkOk_by ok) (fun s H C cl fp => pg_name hN hNj (hg s H C cl fp).1 (hg s H C cl fp).2) (fun _ _ _ _ _ => pts_nil)
    (fun s H C cl fp => pe_ix (X := X.blk s H scope (compEnvC scope cl C X.env) fp) (r := rIxT X.K) ix_tup (pe_var (X := X.blk s H scope (compEnvC scope cl C X.env) fp) hNj ((hg s H C cl fp).1.imp id .inl) hd2 hcd2) pe_int fun _ _ => rfl) hs)).imp' fun σ H Q ⟨S, ρ, G, E, P⟩ => by
    unfold sLcK at P
    cases e0 : dctAt ρ i with
    | none => rw [e0] at P; exact False.elim P
    | some ks =>
      rw [e0] at P
      dsimp only at P
      split at P
      rotate_left
      · exact False.elim P
      rename_i hk
      obtain ⟨hk, hkl, hjr⟩ := hk
      obtain ⟨a, h1, h2, h3, h4⟩ := E.dct i ks (dctAt_eq e0)
      refine ⟨a, dkOf ks, h2, True.intro, fun od => ?_⟩
      refine ⟨_, h1, a, od, rfl, .inr ⟨dkL ks, upd_same, fun Dl hD => ?_⟩⟩
      have naD : a ≠ Dl := fun z => by rw [← z, upd_same] at hD; cases hD
      have hD0 : H Dl = none := by rw [upd_ne (Ne.symm naD)] at hD; exact hD
      refine ⟨fun i m H' => m = ks.length - i ∧ i ≤ ks.length ∧ H' = upd (upd H a (.frz od (dkOf ks))) Dl (.lst ((ks.take i).map fun k => V.int (k.getD c 0))), ⟨ks.length, by simp, Nat.zero_le _, rfl⟩, ?_⟩
      rintro n m H' ⟨rfl, hn, rfl⟩
      have ha' : ∀ l, (upd (upd H a (.frz od (dkOf ks))) Dl l) a = some (.frz od (.dT (dkL ks))) := fun l => by rw [upd_ne naD, upd_same]; rfl
      by_cases hlt : n < ks.length
      · refine .inr ⟨⟨ha' _, by unfold dkL; rw [List.length_map]; exact hlt⟩, fun H' => ks.length - (n + 1) = ks.length - (n + 1) ∧ n + 1 ≤ ks.length ∧ H' = upd (upd H a (.frz od (dkOf ks))) Dl (.lst ((ks.take (n + 1)).map fun k => V.int (k.getD c 0))), fun H' w => ⟨_, by omega, w⟩, fun xv H' hy => ?_⟩
        obtain ⟨rfl, k, v, q, g1, rfl, g2⟩ := hy
        have hkn : k = ks[n].map Sum.inl := by
          unfold dkL at g1
          rw [List.getElem?_map, List.getElem?_eq_getElem hlt] at g1
          injection g1 with g1
          injection g1 with g1 _
          exact g1.symm
        have hjl : j < (wipe σ [j]).length := by rw [wipe_length, ← E.len]; exact hjr
        have hcl : c < ks[n].length := of_decide_eq_true (List.all_eq_true.mp hk _ (List.getElem_mem hlt))
        show wipe ((wipe σ [j]).set j (some (.ref q))) [j] = wipe σ [j] ∧ _
        refine ⟨wipe_ext (by rw [List.length_set, wipe_length]) fun z hz => ?_, ?_⟩
        · have hz' : j ≠ z := fun e => hz (by rw [e]; exact List.mem_singleton.mpr rfl)
          rw [List.getElem?_set_ne hz', wipe_out hz]
        · refine Exists.intro (V.ref q) ⟨List.getElem?_set_self hjl, q, k.map kV, (c : Int), V.int (ks[n].getD c 0), rfl, rfl, SqT.of g2, ?_, (ks.take n).map fun k => V.int (k.getD c 0), upd_same, ?_, rfl, hlt, ?_⟩
          · rw [hkn, tupV]
            refine atI_nat ?_
            rw [List.getElem?_map, List.getElem?_eq_getElem hcl, List.getD_eq_getElem?_getD, List.getElem?_eq_getElem hcl]; rfl
          · rw [List.length_map, List.length_take, line_eq]; omega
          · rw [upd_upd, List.take_succ_eq_append_getElem hlt, List.map_append]; rfl
      · have e : n = ks.length := by omega
        subst e
        refine .inl ⟨⟨ha' _, by unfold dkL; rw [List.length_map]; exact Nat.le_refl _⟩, ha' _, ?_⟩
        rw [List.take_length]
        have eH : upd (upd (upd H a (.frz od (dkOf ks))) Dl (.lst (ks.map fun k => V.int (k.getD c 0)))) a (dkOf ks) = upd H Dl (.lst (ks.map fun k => V.int (k.getD c 0))) := by
          funext z
          by_cases q : z = a
          · subst q; rw [upd_same, upd_ne naD]; exact h2.symm
          · rw [upd_ne q]
            by_cases q2 : z = Dl
            · subst q2; rw [upd_same, upd_same]
            · rw [upd_ne q2, upd_ne q, upd_ne q2]
        rw [eH]
        obtain ⟨m1, m2, m3, m4, m5⟩ := E.newl (vs := ks.map fun k => V.int (k.getD c 0)) hD0
        refine P _ G m1 Le.refl Dl _ m2 m3 m4 m5 (by rw [List.length_map, line_eq]; omega) ?_
        have : (ks.map fun k => V.int (k.getD c 0)) = (ks.map fun k => k.getD c 0).map V.int := by rw [List.map_map]; rfl
        rw [this]
        have : (ks.map fun k => PyData.int (k.getD c 0)) = (ks.map fun k => k.getD c 0).map PyData.int := by rw [List.map_map]; rfl
        rw [this]
        exact DpAll.of_ints _
end
end Rf

set_option maxRecDepth 100000
set_option maxHeartbeats 4000000
namespace Rf
open PySem PySem.Spec PyProof.Rows L2
/-! ### a law's entry -/
def Bk (K : PySem.W.Frag) : Bs := ⟨K, fun _ => True, fun _ _ _ _ => True.intro, fun _ _ _ _ => False, fun _ _ _ _ => False, fun _ z => z⟩
theorem spOf_law {K : PySem.W.Frag} {m : List D → FD} {H : Hp} {a : Addr} {ns : List Int} (hO : Only H) (hS : SqL K H a (ns.map V.int)) (hl : ns.length ≤ 63) (h : m [.list (ns.map .int)] = .ret (.bool true)) :
    spOf (Bk K) (mD m) [.ref a] H (fun v _ => v = .bl true) fun _ _ _ => False := by
  let Pz : Prop := ∃ o, H a = some (.frz o (.lst (ns.map V.int)))
  obtain ⟨G0, hG, hS'⟩ : ∃ G0 : Hp, (∀ b o, G0 b = some o → b = a ∧ H a = some o ∧ Pz) ∧ SqL K G0 a (ns.map V.int) := by
    rcases hS with (r | ⟨o, r⟩) | r
    · rcases hO a with z | ⟨o', xs, z⟩
      · rw [z] at r; cases r
      · rw [z] at r; cases r
    · refine ⟨fun b => if b = a then H a else none, fun b o' e => ?_, .inl (.inr ⟨o, ?_⟩)⟩
      · dsimp only at e
        split at e
        · exact ⟨by assumption, e, o, r⟩
        · cases e
      · show (if a = a then H a else none) = _
        rw [if_pos rfl]; exact r
    · exact ⟨fun _ => none, fun b o e => (nomatch e), .inr r⟩
  have hsz : ∀ o, H a = some o → Pz → szO o := fun o e ⟨o2, z⟩ => by
    rw [z] at e; cases e
    show (ns.map V.int).length ≤ sizeLine
    rw [List.length_map, line_eq]; omega
  refine ⟨G0, [.dat (.list (ns.map .int))], fun i l e => ?_, fun i l e => ?_, ?_, ?_⟩
  · match i, e with
    | 0, e => cases e
    | i + 1, e => simp at e
  · match i, e with
    | 0, e => cases e
    | i + 1, e => simp at e
  · have hc : ∀ (i : Nat) c, (argsR [C.dat (.list (ns.map .int))])[i]? = some (some c) → i = 0 ∧ c = .dat (.list (ns.map .int)) := fun i c e => by
      match i, e with
      | 0, e => cases e; exact ⟨rfl, rfl⟩
      | i + 1, e => simp [argsR] at e
    exact {
      sub := fun b o e => by obtain ⟨rfl, e, _⟩ := hG b o e; exact e
      nt := fun b ps e => by
        obtain ⟨rfl, e, _⟩ := hG b _ e
        rcases hO b with z | ⟨o', xs, z⟩
        · rw [z] at e; cases e
        · rw [z] at e; cases e
      sz := fun b o e => by obtain ⟨rfl, e, z⟩ := hG b o e; exact hsz o e z
      j := True.intro
      keep := fun b o e _ _ => e
      there := fun b e => e
      gsub := fun b o e => e
      gnew := fun b o e => .inl e
      len := rfl
      dat := fun i d e => by
        obtain ⟨rfl, e⟩ := hc i _ e
        cases e
        exact ⟨.ref a, rfl, .lst hS' (DpAll.of_ints ns)⟩
      dct := fun i ks e => by obtain ⟨_, e⟩ := hc i _ e; cases e
      raw := fun i v e => by obtain ⟨_, e⟩ := hc i _ e; cases e
      rel := fun i k d e => by obtain ⟨_, e⟩ := hc i _ e; cases e
      dnq := fun i j ks ks' e _ => by obtain ⟨_, e⟩ := hc i _ e; cases e
      held := fun i l e => by
        rcases e with e | e
        · obtain ⟨_, e⟩ := hc i _ e; cases e
        · obtain ⟨_, e⟩ := hc i _ e; cases e
      ref := fun i l e => by obtain ⟨_, e⟩ := hc i _ e; cases e
      sep := fun i j l m _ e _ => by
        rcases e with e | e
        · obtain ⟨_, e⟩ := hc i _ e; cases e
        · obtain ⟨_, e⟩ := hc i _ e; cases e
      isref := fun i l e => by obtain ⟨_, e⟩ := hc i _ e; cases e }
  · have e : mD m [.dat (.list (ns.map .int))] = .ret (.bool true) [.dat (.list (ns.map .int))] := by
      unfold mD
      rw [show datsOf [C.dat (.list (ns.map .int))] = some [.list (ns.map .int)] from rfl]
      dsimp only
      rw [h]
    rw [e]
    intro v H' G' _ hv
    cases hv
    rfl
end Rf

set_option maxRecDepth 100000
set_option maxHeartbeats 4000000
namespace Rf
open PySem PySem.Spec PyProof.Rows L2
/-! ### errors of the program's own: how they lie, raise -/
abbrev veBases : List Value := [.type "ValueError", .type "Exception", .type "BaseException", .type "object"]
/-- what is kept of an error in the air -/
def EXc (cl : Str → Option Addr) (cm : Addr) : Exc → Value → Option Addr → Hp → Prop
  | .own nm, cls, d, _ => ∃ C, cl nm = some C ∧ cls = .ref C ∧ d = none
  | .many i, cls, d, H => cls = .ref cm ∧ ∃ (dd : Addr) (fs : List (Str × V)), d = some dd ∧ H dd = some (.xd fs) ∧ fs.lookup ("limit" : Str) = some (V.int i)
/-- an error object held as a value: the class C, its arguments' tuple at t0 -/
def ExS (C a t0 : Addr) : HO := .ext fun h => h.get? a = some ({ cls := .ref C, dict := none, data := .fields #[.ref t0, .none, .none, .none, .bool false, .none] } : Obj)
def excV (cl : Str → Option Addr) (cm : Addr) (d : PyData) (G : Hp) (v : V) : Prop := match d with
  | .tuple [.str nm, .str m] => ∃ a C t0, v = .ref a ∧ cl nm = some C ∧ G a = some (ExS C a t0) ∧ G t0 = some (.tup [.str m])
  | .int i => ∃ a dx, v = .ref a ∧ G a = some (exo a cm (some dx)) ∧ G dx = some (exd dx [("limit", .int i)])
  | _ => False
theorem excV_up {cl : Str → Option Addr} {cm : Addr} {d : PyData} {G G' : Hp} {v : V} (k : ∀ b o, G b = some o → G' b = some o) (h : excV cl cm d G v) : excV cl cm d G' v := by
  unfold excV at h ⊢
  split at h
  · obtain ⟨a, C, t0, h1, h2, h3, h4⟩ := h
    exact ⟨a, C, t0, h1, h2, k _ _ h3, k _ _ h4⟩
  · obtain ⟨a, dx, h1, h2, h3⟩ := h
    exact ⟨a, dx, h1, k _ _ h2, k _ _ h3⟩
  · exact h
/-- 0: an error; 1: a list of such -/
def relE (cl : Str → Option Addr) (cm : Addr) (k : Nat) (d : PyData) (G : Hp) (v : V) : Prop := match k, d with
  | 0, d => excV cl cm d G v
  | 1, .list ds => ∃ a vs, v = .ref a ∧ G a = some (.lst vs) ∧ vs.length = ds.length ∧ ∀ (i : Nat) d u, ds[i]? = some d → vs[i]? = some u → excV cl cm d G u
  | _, _ => False
theorem relE_up {cl : Str → Option Addr} {cm : Addr} {n : Nat} {d : PyData} {G G' : Hp} {v : V} (k : ∀ b o, G b = some o → G' b = some o) (h : relE cl cm n d G v) : relE cl cm n d G' v := by
  unfold relE at h ⊢
  split at h
  · exact excV_up k h
  · obtain ⟨a, vs, h1, h2, h3, h4⟩ := h
    exact ⟨a, vs, h1, k _ _ h2, h3, fun i d u e1 e2 => excV_up k (h4 i d u e1 e2)⟩
  · exact h
/-- a law with errors and lambdas: K the written part, T the tables of code objects, cl the classes by name, cm the class with a limit -/
def Be (K : PySem.W.Frag) (T : List (Addr × Str)) (cl : Str → Option Addr) (cm : Addr) : Bs where
  K := K
  J := LamX.Tabs T
  js := fun H H' t k p hp => by
    obtain ⟨ps, h1, h2, h3⟩ := t p hp
    refine ⟨ps, k _ _ h1 (fun xs z => by cases z) (fun ks z => by unfold dkOf at z; cases z), h2, fun pos cv hc => ?_⟩
    obtain ⟨c, e1, e2⟩ := h3 pos cv hc
    exact ⟨c, e1, k _ _ e2 (fun xs z => by unfold LamX.CodeO at z; cases z) (fun ks z => by unfold LamX.CodeO dkOf at z; cases z)⟩
  EX := EXc cl cm
  RV := relE cl cm
  rs := relE_up
/-- an own error class without its own __init__ -/
structure OwnE (B : Bs) (mg : Str → Option Value) (x : Str) : Prop where
  ex : ∃ C, mg x = some (.ref C) ∧ PySem.W.excIn B.K C veBases "ValueError.__new__" = true ∧ PySem.W.keepIn B.K (.ref C) = true ∧ PySem.W.subIn B.K (.ref C) (.type "BaseException") = some true ∧ PySem.W.typeIn B.K (.ref C) = some (.type "type") ∧ ∀ H, B.EX (.own x) (.ref C) none H
def sRaise (x : Str) : Rho → OS := fun ρ => .ex (.own x) ρ
section
variable {X : Cx} {B : Bs} {Wx : WX}
theorem g_raise {x m : Str} {j : Nat} {p p2 pos rpos : Pos} (hK : X.K = B.K) (hc : X.calm = true) (tk : L2N.Takes X Wx) (F : OwnE B X.mg x) (hg : Gl X x := by rfl) (hdb : (x == ("__debug__" : Str)) = false := by decide) :
    PS X (.Raise (some (.Call (.Name x p) [.Constant (.str m) j p2] [] pos)) none rpos) (tSt B Wx (sRaise x)) := by
  obtain ⟨C, h1, h2, h3, h4, h5, h6⟩ := F.ex
  rw [← hK] at h2 h3 h4 h5
  exact (L2N.ps_raise hc tk (L2N.pmk_own PySem.F.excBase_ValueError h2 h1 h3 (raises_own h4 h5) hg hdb)).imp' fun D σ H ⟨S, ρ, G, E, P⟩ => P (.ref C) none σ H G E Le.refl (h6 H)
/-- the class with a limit: its own __init__ -/
structure LimE (B : Bs) (P : Program) (w : World) (mg : Str → Option Value) (base : Heap) (x : Str) (lv : Nat) : Prop where
  ex : ∃ C fI fd, mg x = some (.ref C) ∧ OexC B.K C ∧ PySem.W.findIn B.K (.ref C) "limit" = some none ∧ PySem.W.findIn B.K (.ref C) "__init__" = some (some (.ref fI)) ∧ PySem.W.typeIn B.K (.ref fI) = some (.type "function") ∧
    FnOk P w B.K mg base CX0 lv fI fd ["self", "limit"] (ExN.spTM B.K) ∧ Binds B.K fd ["self", "limit"] [] ∧ ∀ i dd fs H, H dd = some (.xd fs) → fs.lookup ("limit" : Str) = some (V.int i) → B.EX (.many i) (.ref C) (some dd) H
def sLimit (fa : Rho → O Rf.D) : Rho → OS := fun ρ => (fa ρ).run fun d ρ1 => match d with
  | .int i => if i.natAbs < 2 ^ 64 then .ex (.many i) ρ1 else .no
  | _ => .no
theorem g_limit {x : Str} {e : Expr} {p pos rpos : Pos} {lv : Nat} {fa : Rho → O Rf.D} (hK : X.K = B.K) (hc : X.calm = true) (tk : L2N.Takes X Wx) (F : LimE B X.prog X.w X.mg X.base x lv) (hr : Room (lv + 1) X.A) (he : PE X e (tEv B Wx fa)) (hg : Gl X x := by rfl) (hdb : (x == ("__debug__" : Str)) = false := by decide)
    (hs : starEach [e] X.env = (false, eval e X.env) :: starEach [] X.env := by rfl) (hpl : (backTo pos (starEach [] X.env)).any (·.1) = false := by rfl) :
    PS X (.Raise (some (.Call (.Name x p) [e] [] pos)) none rpos) (tSt B Wx (sLimit fa)) := by
  obtain ⟨C, fI, fd, h1, h2, h3, h4, h5, h6, h7, h8⟩ := F.ex
  have h2' := h2
  have h3' := h3
  have h4' := h4
  have h5' := h5
  have h6' := h6
  have h7' := h7
  rw [← hK] at h2 h4 h5 h6 h7
  refine (L2N.ps_raise hc tk (ExN.pmk_oexN (dvs := []) (ds := []) h2 h4 h5 h6 hr h7 .nil pass0 hg h1 (pa_cons he pa_nil hs) hdb hs hpl)).imp' fun D σ H ⟨S, ρ, G, E, P⟩ => ?_
  refine ⟨S, ρ, G, E, P.run.imp fun d ρ1 H1 G1 E1 le1 q v hv => ?_⟩
  split at q
  · rename_i i
    split at q
    · rename_i hi
      cases dint hv
      refine ⟨by simp, fun a ha => ⟨a, C, i, rfl, h2, by rw [hK]; exact h3, hi, upd_same, fun dx hdx ndx => ?_⟩⟩
      refine ⟨rfl, dx, [("limit", .int i)], upd_same, ?_, ?_, ?_⟩
      · rw [upd_ne ndx, upd_same]
      · rw [upd_ne ndx] at hdx; exact hdx
      · have hdx1 : H1 dx = none := by rw [upd_ne ndx] at hdx; exact hdx
        have eH : upd (del (upd (upd (upd H1 a (exo a C none)) dx (exd dx [("limit", .int i)])) a (exo a C (some dx))) a) dx (.xd [("limit", .int i)]) = upd H1 dx (.xd [("limit", .int i)]) := by
          funext b
          by_cases hb : b = dx
          · rw [hb, upd_same, upd_same]
          · rw [upd_ne hb, upd_ne hb]
            by_cases hb2 : b = a
            · rw [hb2, del_same, ha]
            · rw [del_ne hb2, upd_ne hb2, upd_ne hb, upd_ne hb2]
        rw [eH]
        exact q (.ref C) (some dx) σ _ G1 (E1.fresh hdx1) Le.refl (h8 i dx _ _ upd_same rfl)
    · exact False.elim q
  · exact False.elim q
end
end Rf

set_option maxRecDepth 100000
set_option maxHeartbeats 4000000
namespace Rf
open PySem PySem.Spec PyProof.Rows L2
/-! ### texts: join, split -/
def strsOf : List D → Option (List Str)
  | [] => some []
  | .str z :: r => (strsOf r).map (z :: ·)
  | _ :: _ => none
theorem strsOf_eq : ∀ {ds : List D} {ns : List Str}, strsOf ds = some ns → ds = ns.map PyData.str
  | [], ns, h => by simp [strsOf] at h; subst h; rfl
  | .str i :: r, ns, h => by
    cases q : strsOf r with
    | none => simp [strsOf, q] at h
    | some ms =>
      simp [strsOf, q] at h
      subst h
      rw [strsOf_eq q]; rfl
  | .none :: _, _, h | .bool _ :: _, _, h | .int _ :: _, _, h | .list _ :: _, _, h | .tuple _ :: _, _, h | .dict _ :: _, _, h => by simp [strsOf] at h
def dJoin (z : Str) : D → Option D
  | .list ds => (strsOf ds).bind fun ys => if (ys.map (·.length)).sum + ys.length * z.length ≤ 16777216 then some (.str (Txt.join z ys)) else none
  | _ => none
def dSplit (z : Str) : D → Option (List D)
  | .str y => if (y.length == 0) = false ∧ z.length + 2 ≤ 16777216 ∧ (Txt.split z y).length ≤ 16777216 then some ((Txt.split z y).map .str) else none
  | _ => none
/-- a text's method of one argument -/
def sM1 {α : Type} (g : Str → D → Option α) (fa fb : Rho → O D) : Rho → O α := fun ρ => (fa ρ).bind fun x ρ1 => match x with
  | .str z => (fb ρ1).bind fun y ρ2 => lift (g z y) ρ2
  | _ => .no
section
variable {X : Cx} {B : Bs} {Wx : WX}
theorem g_join {o e : Expr} {apos pos : Pos} {fa fb : Rho → O D} (hK : X.K = B.K) (ho : PE X o (tEv B Wx fa)) (he : PE X e (tEv B Wx fb)) (hs : starEach [e] X.env = [(false, eval e X.env)] := by rfl) (hbase : attributeBase o "join" X.env (eval o X.env) = eval o X.env := by rfl) (hline : (apos.endLine == pos.line) = true := by rfl) :
    PE X (.Call (.Attribute o "join" apos) [e] [] pos) (tEv B Wx (sM1 dJoin fa fb)) :=
  (pe_join ho he hs hbase hline).imp' fun σ H Q ⟨S, ρ, G, E, P⟩ => by
    refine ⟨S, ρ, G, E, P.bind.imp fun x ρ1 H1 G1 E1 le1 q1 v hv => ?_⟩
    split at q1
    · rename_i z
      refine ⟨⟨z, dstr hv⟩, S, ρ1, G1, E1, q1.bind.imp fun y ρ2 H2 G2 E2 le2 q2 w hw => ?_⟩
      unfold dJoin at q2
      split at q2
      · rename_i ds
        cases es : strsOf ds with
        | none => simp only [es, Option.bind_none, lift] at q2; exact False.elim q2
        | some ys =>
          simp only [es, Option.bind_some] at q2
          split at q2
          · rename_i hz
            obtain ⟨a, xs, rfl, s1, a1⟩ := dlst hw
            rw [strsOf_eq es] at a1
            refine ⟨z, a, ys, dstr hv, rfl, .inl ?_, hz, q2 H2 G2 E2 Le.refl _ (.str _)⟩
            rw [← a1.strs]
            exact hK ▸ SqL.le E2.sub s1
          · exact False.elim q2
      · exact False.elim q2
    · exact False.elim q1
theorem g_split {o e : Expr} {apos pos : Pos} {fa fb : Rho → O D} (ho : PE X o (tEv B Wx fa)) (he : PE X e (tEv B Wx fb)) (hs : starEach [e] X.env = [(false, eval e X.env)] := by rfl) (hbase : attributeBase o "split" X.env (eval o X.env) = eval o X.env := by rfl) (hline : (apos.endLine == pos.line) = true := by rfl) :
    PE X (.Call (.Attribute o "split" apos) [e] [] pos) (tEo B Wx (sM1 dSplit fa fb)) :=
  (pe_split ho he hs hbase hline).imp' fun σ H Q ⟨S, ρ, G, E, P⟩ => by
    refine ⟨S, ρ, G, E, P.bind.imp fun x ρ1 H1 G1 E1 le1 q1 v hv => ?_⟩
    split at q1
    · rename_i z
      refine ⟨⟨z, dstr hv⟩, S, ρ1, G1, E1, q1.bind.imp fun y ρ2 H2 G2 E2 le2 q2 w hw => ?_⟩
      unfold dSplit at q2
      split at q2
      · rename_i y
        split at q2
        · rename_i hz
          refine ⟨z, y, dstr hv, by rw [dstr hw], hz.1, by rw [line_eq]; exact hz.2.1, fun p hp => ?_⟩
          obtain ⟨F1, F2, F3, F4, F5⟩ := E2.newl (vs := (Txt.split z y).map V.str) hp
          exact q2 _ G2 F1 Le.refl p _ F2 F3 F4 F5 (by rw [List.length_map, line_eq]; exact hz.2.2) (DpAll.of_strs _)
        · exact False.elim q2
      · exact False.elim q2
    · exact False.elim q1
end
/-! ### what is done while an error is handled -/
open HotY HotP L2H HotX
/-- isinstance(e, c), e the handled error at a -/
def sIsx (i : Nat) (a : Addr) (b : Bool) : Rho → O D := fun ρ => match ρ[i]? with
  | some (some (.raw (.ref c))) => if c = a then .ok (.bool b) ρ else .no
  | _ => .no
section
variable {X : Cx} {B : Bs} {Wx : WX}
theorem g_isx (i : Nat) {p : Addr × Obj} {D C' : Addr} {x c : Str} {b : Bool} {p1 p2 p3 pos : Pos} (hp : p ∈ X.pn) (C : ExcC X.K D) (hz : Zc (.ref D) none p.2) (hf : ∃ vs, p.2.data = .fields vs) (hm : X.mg "isinstance" = none) (hc : X.mg c = some (.ref C')) (kit : PySem.W.kitOne X.K (.ref D) (.ref C') = some b)
    (hN : X.N[i]? = some x := by rfl) (hv : Vis X.env.scope x := by first | exact .inl rfl | exact .inr (.inl rfl) | exact .inr (.inr rfl)) (hd : (x == ("__debug__" : Str)) = false := by decide) (hcd : (x == ("__classdict__" : Str)) = false := by decide) (hg : Gl X "isinstance" := by rfl) (hgc : Gl X c := by rfl) (hdc : (c == ("__debug__" : Str)) = false := by decide)
    (hs : starEach [.Name x p2, .Name c p3] X.env = (false, eval (.Name x p2) X.env) :: starEach [.Name c p3] X.env := by rfl) (hs2 : starEach [.Name c p3] X.env = (false, eval (.Name c p3) X.env) :: starEach [] X.env := by rfl) (hpl : (backTo pos (starEach [.Name c p3] X.env)).any (·.1) = false := by rfl) :
    PE X (.Call (.Name "isinstance" p1) [.Name x p2, .Name c p3] [] pos) (tEv B Wx (sIsx i p.1 b)) :=
  (pe_callB (call_isP hp C hz hf) hg hm (by decide +kernel) (pa_cons (pe_var hN hv hd hcd) (pa_cons (pe_glob (v := V.ref C') hgc hc rfl hdc) pa_nil hs2) hs) (by decide) (by decide) hs hpl).imp' fun σ H Q ⟨S, ρ, G, E, P⟩ => by
    unfold sIsx at P
    split at P
    · rename_i c0 hr
      split at P
      · rename_i hc0
        subst hc0
        refine ⟨_, E.raw i _ hr, V.ref C', .ref C', b, rfl, fun u hu => ?_, kit, P H G E Le.refl _ (.bl b)⟩
        exact hu
      · exact False.elim P
    · exact False.elim P
/-- a list, walked -/
theorem ri_itemsS {tg e : Expr} {fa : Rho → O D} (hK : X.K = B.K) (he : PE X e (tEv B Wx fa)) : PIS X tg e (tIt B Wx fun ρ => (fa ρ).bind fun x ρ1 => match x with | .list xs => .ok xs ρ1 | _ => .no) :=
  ⟨fun pins t σ H R J ⟨S, ρ, G, E, P⟩ => (pi_listS he).run pins t σ H R J (by
    refine ⟨S, ρ, G, E, P.bind.imp fun x ρ1 H1 G1 E1 le1 q1 v hv => ?_⟩
    split at q1
    · rename_i xs
      obtain ⟨a, ys, rfl, s1, a1⟩ := dlst hv
      exact ⟨a, rfl, ⟨ys, hK ▸ SqL.le E1.sub s1⟩, q1 H1 G1 E1 Le.refl (by rw [← a1.length]; exact szl E1 s1) _ (feeds_list hK s1 a1)⟩
    · exact False.elim q1)⟩
theorem rg_tupS {is : List Nat} {es : List Expr} {k : Nat} {pos : Pos} (hK : X.K = B.K) (hc : HotS X) (h : PGs X es (tTgs B is)) (hn : (assignEach es X.env).length = is.length := by rfl) (hst : (assignEach es X.env).findIdx? (·.1) = none := by rfl) : PG X (.Tuple es k pos) (tTg B (.tp is)) :=
  (pg_tupS hc h hn hst).imp' fun v σ H Q ⟨S, ρ, G, d, ρ', E, hd, e, q⟩ => by
    cases d with
    | tuple ds =>
      obtain ⟨a, xs, rfl, s1, a1⟩ := dtup hd
      exact ⟨a, xs, rfl, hK ▸ SqT.le E.sub s1, by rw [a1.length]; exact (bindL_len e).symm, S, ρ, G, ds, ρ', E, a1, e, q⟩
    | none => cases e
    | bool _ => cases e
    | int _ => cases e
    | str _ => cases e
    | list _ => cases e
    | dict _ => cases e
abbrev PBlS (X : Cx) (scope : Scope) (F : Cx → Prop) : Prop := ∀ (s : Shared) (H : Hp) (C : Addr) (cl : List (Str × Addr)) (fp : List Addr), HotS (X.blk s H scope (compEnvC scope cl C X.env) fp) → F (X.blk s H scope (compEnvC scope cl C X.env) fp)
theorem g_lcS (own : List (Str × Nat)) {elt tg iter : Expr} {ifs : List Expr} {scope : Scope} {pos : Pos} {t : Tg} {fi : Rho → O (List D)} {fc fe : Rho → O D} (hc : HotS X) (hN : X.N.Nodup) (hi : PIS X tg iter (tIt B Wx fi)) (hg : PBlS X scope fun Y => PG Y tg (tTg B t)) (hf : PBlS X scope fun Y => PTs Y ifs (tEt B wNo fc)) (he : PBlS X scope fun Y => PE Y elt (tEv B wNo fe))
    (ok : blkC X.N X.env.scope scope own = true := by kernel_rfl) (ht : ∀ i ∈ t.slots, i ∈ own.map (·.2) := by decide) (hs : ∀ x, foldedSetIterable iter X.env x = pure x := by intro _; rfl) : PE X (.ListComp elt [⟨tg, iter, ifs, 0⟩] scope pos) (tEo B Wx (sLc t (own.map (·.2)) fi fc fe)) :=
  (pe_lcS hc hN hi (blkOk_by ok) hg hf he hs).imp' fun σ H Q h => lc_read ht h wNo wNo
end
end Rf

set_option maxRecDepth 100000
set_option maxHeartbeats 4000000
namespace Rf
open PySem PySem.Spec PyProof.Rows L2 HotY HotP L2H HotX
/-! ### the word for a handled error -/
/-- all but the tables stays, nothing goes -/
def Ext (B : Bs) (H H' : Hp) : Prop := (∀ b o, H b = some o → (∀ ps, o ≠ .tbl ps) → H' b = some o) ∧ (∀ b, H' b = none → H b = none) ∧ B.J H'
section
variable {B : Bs}
theorem EnvOk.ext {S : Sit} {ρ : Rho} {σ : St} {H G H' : Hp} (E : EnvOk B S ρ σ H G) (x : Ext B H H') : EnvOk B S ρ σ H' G :=
  E.grow x.1 x.2.1 (fun _ _ e => e) (fun _ _ e => .inl e) (fun b o e => x.1 b o (E.sub b o e) fun ps z => E.nt b ps (by rw [e, z])) E.nt E.sz x.2.2
theorem EnvOk.rawArg {S : Sit} {ρ : Rho} {σ : St} {H G : Hp} (E : EnvOk B S ρ σ H G) (v : V) : EnvOk B (Rf.reb (argsR [.raw v]) (argsS [v]) H G) (argsR [.raw v]) (argsS [v]) H G :=
  E.enter rfl (fun i d e => by match i, e with
      | 0, e => cases e
      | i + 1, e => simp at e) (fun i l e => by match i, e with
      | 0, e => cases e
      | i + 1, e => simp at e) (fun i l e => by match i, e with
      | 0, e => cases e
      | i + 1, e => simp at e) (fun i w e => by match i, e with
      | 0, e => cases e; rfl
      | i + 1, e => simp at e) (fun i k d e => by match i, e with
      | 0, e => cases e
      | i + 1, e => simp at e) (fun i l e => by match i, e with
      | 0, e => cases e
      | i + 1, e => simp at e) (fun i j l m e => by match i, e with
      | 0, e => cases e
      | i + 1, e => simp at e)
/-- what _law_kind_of promises: p the handled error, of the class nm -/
def spKind (B : Bs) (cl : Str → Option Addr) (n : Nat) (fn : Addr → (Str → Bool) → Rho → OS) : Addr × Obj → Sp := fun p vs H Q _ => ∃ (nm : Str) (D : Addr) (w : Str) (ρ' : Rho) (S : Sit) (ρ : Rho) (σ : St) (G : Hp), vs = [.ref p.1] ∧ cl nm = some D ∧ Zc (.ref D) none p.2 ∧ (∃ us, p.2.data = .fields us) ∧ EnvOk B S ρ σ H G ∧
  fn p.1 (fun m => m == nm) (start0 n [.raw (.ref p.1)]) = .ret (.str w) ρ' ∧ ∀ H', Ext B H H' → Q (.str w) H'
theorem good_K {P : Program} {w : World} {mg : Str → Option Value} {base : Heap} {cl : Str → Option Addr} {x : Str} {st : Stmt} {f : Addr} {fd : FuncData} {N : List Str} {k : Nat} {fn : Addr → (Str → Bool) → Rho → OS} (F : Fun B.K x x st f fd) (S : FnScope N ["e"] (defScope st))
    (hbody : ∀ (nm : Str) (D : Addr) (cdv : Value) (A : Around) (outer : List Env) (t : Shared) (H : Hp) (E : XK) (p : Addr × Obj), cl nm = some D → Zc (.ref D) none p.2 → (∃ us, p.2.data = .fields us) → HotS (cxH CX0 P w B.K mg base N x (defScope st) f cdv A outer t H E p) → RoomH k (A.deeper (envOfC x (defScope st) t.heap.objs.size f cdv)) →
      PSs (cxH CX0 P w B.K mg base N x (defScope st) f cdv A outer t H E p) (defBody st) (tSt B wNo (fn p.1 fun m => m == nm))) : FnP P w B.K mg base CX0 (k + 1) f fd ["e"] (spKind B cl N.length fn) := by
  have hps : 1 ≤ N.length := by have := congrArg List.length S.pre; rw [List.length_take] at this; simp at this; omega
  obtain ⟨oc, od, kV, dc, pm, an, cdv, ct, osl, rfl, lk, hcd⟩ := F.ex
  refine fn_ofP lk hcd S (fun p vs H Q E h => ?_) fun A outer t H vs Q E p hot hpin hr h => ?_
  · obtain ⟨nm, D, wd, ρ', S1, ρ, σ, G, rfl, _⟩ := h; rfl
  · obtain ⟨nm, D, wd, ρ', S1, ρ, σ, G, rfl, h1, h2, h3, E1, h4, h5⟩ := h
    refine ⟨_, hbody nm D cdv A outer t H E p h1 h2 h3 (hotS_cxH hot hpin) hr, ?_⟩
    have E0 := E1.rawArg (.ref p.1)
    refine ⟨_, _, G, E0.widen hps, ?_⟩
    rw [h4]
    intro σ' H' G' E' le v hv
    rw [dstr hv]
    refine h5 H' ⟨fun b o e nt => E'.keep b o e (fun hw => ?_) nt, fun b e => E'.there b e, E'.j⟩
    have no : ∀ (i : Nat) c, (start0 N.length [C.raw (.ref p.1)])[i]? = some (some c) → c = .raw (.ref p.1) := fun i c hc => by
      have z := start0_inv hc
      match i, z with
      | 0, z => cases z; rfl
      | i + 1, z => simp at z
    rcases hw with hw | ⟨i, l, hw, _⟩ | ⟨i, ks, hw, _⟩
    · have hw : H b = none := hw
      rw [hw] at e; cases e
    · rcases hw with hw | hw
      · cases no i _ hw
      · cases no i _ hw
    · cases no i _ hw
/-- what is wished of an error in the air, where _law_word handles it -/
def Ew (B : Bs) (cl : Str → Option Addr) (cm : Addr) (n : Nat) (fn : Addr → (Str → Bool) → Rho → OS) (Q : VK) : XK := fun cls d H' =>
  (∃ (i : Int) (dd : Addr) (fs : List (Str × V)), cls = .ref cm ∧ d = some dd ∧ H' dd = some (.xd fs) ∧ fs.lookup ("limit" : Str) = some (V.int i) ∧ i.natAbs.log2 < 1000 ∧ Q (.str ("full" ++ (toString i : Str))) H') ∨
  ∃ (nm : Str) (D : Addr) (w : Str) (S : Sit) (ρ : Rho) (σ : St) (G : Hp), cl nm = some D ∧ cls = .ref D ∧ d = none ∧ (∀ a, ∃ ρ', fn a (fun m => m == nm) (start0 n [.raw (.ref a)]) = .ret (.str w) ρ') ∧ EnvOk B S ρ σ H' G ∧ ∀ H'', Ext B H' H'' → Q (.str w) H''
def TTw (B : Bs) (cl : Str → Option Addr) (cm : Addr) (n : Nat) (fn : Addr → (Str → Bool) → Rho → OS) : (XK → Hp → VK → Prop) → Hp → VK → Prop := fun tl H Q => tl (Ew B cl cm n fn Q) H (fun _ H' => ∃ v, (some (some (V.str ""))) = some (some v) ∧ Q v H')
/-- the word of an error -/
def wordOf (kw : Str → Option Str) : Exc → Option Str
  | .own nm => kw nm
  | .many i => if i.natAbs.log2 < 1000 then some ("full" ++ (toString i : Str)) else none
/-- _law_word(lambda: e) -/
def sWord (kw : Str → Option Str) (f : Rho → O D) : Rho → O D := fun ρ => match f ρ with
  | .ok _ ρ1 => .ok (.str "") ρ1
  | .ex e ρ1 => match wordOf kw e with
    | some z => .ok (.str z) ρ1
    | none => .no
  | .no => .no
/-- the words are what the def says -/
structure KwOk (cl : Str → Option Addr) (n : Nat) (fn : Addr → (Str → Bool) → Rho → OS) (kw : Str → Option Str) : Prop where
  ok : ∀ nm z, kw nm = some z → ∀ a, ∃ ρ', fn a (fun m => m == nm) (start0 n [.raw (.ref a)]) = .ret (.str z) ρ'
theorem word_read {K : PySem.W.Frag} {T : List (Addr × Str)} {cl : Str → Option Addr} {cm : Addr} {n : Nat} {fn : Addr → (Str → Bool) → Rho → OS} {kw : Str → Option Str} (W : KwOk cl n fn kw) {Wx : WX} {f : Rho → O D} {σ : St} {H : Hp} {Q : VK} (h : tEv (Be K T cl cm) Wx (sWord kw f) σ H Q) :
    LamN.tLamN T (TTw (Be K T cl cm) cl cm n fn) (fun E => tEv (Be K T cl cm) (wishOf E) f) σ H Q := by
  obtain ⟨S, ρ, G, E, P⟩ := h
  refine ⟨E.j, fun H1 x1 nn T1 => ?_⟩
  have E1 : EnvOk (Be K T cl cm) S ρ σ H1 G := E.ext ⟨x1, nn, T1⟩
  refine ⟨S, ρ, G, E1, ?_⟩
  unfold sWord at P
  cases ef : f ρ with
  | no => rw [ef] at P; exact False.elim P
  | ok d ρ1 =>
    rw [ef] at P
    exact fun H2 G2 E2 le2 v hv => ⟨_, rfl, P H2 G2 E2 le2 _ (.str _)⟩
  | ex e ρ1 =>
    rw [ef] at P
    dsimp only at P
    intro cls d H2 G2 E2 le2 hex
    cases ew : wordOf kw e with
    | none => rw [ew] at P; exact False.elim P
    | some z =>
      rw [ew] at P
      match e, ew, hex with
      | .own nm, ew, hex =>
        obtain ⟨D, h1, h2, h3⟩ := hex
        exact .inr ⟨nm, D, z, S, ρ1, σ, G2, h1, h2, h3, W.ok nm z ew, E2, fun H3 x3 => P H3 G2 (E2.ext x3) le2 _ (.str _)⟩
      | .many i, ew, hex =>
        obtain ⟨h1, dd, fs, h2, h3, h4⟩ := hex
        unfold wordOf at ew
        dsimp only at ew
        by_cases hi : i.natAbs.log2 < 1000
        · rw [if_pos hi] at ew
          have ez := Option.some.inj ew
          rw [← ez] at P
          exact .inl ⟨i, dd, fs, h1, h2, h3, h4, hi, P H2 G2 E2 le2 _ (.str _)⟩
        · rw [if_neg hi] at ew; cases ew
end
end Rf

set_option maxRecDepth 100000
set_option maxHeartbeats 4000000
namespace Rf
open PySem PySem.Spec PyProof.Rows L2 HotY HotP L2H HotX
/-! ### what the written part says of the error classes, asked at once -/
/-- C: a class with a dict, over ValueError -/
def oexB (K : PySem.W.Frag) (C : Addr) : Bool := match K.lookup C with
  | some ⟨.type "type", _, .cls cd, sl⟩ => (match cd.mro, sl.toList with
    | .ref C' :: bm, [_, _, _, _, some (.builtin n), _] => C' == C && n == "ValueError.__new__" && !cd.hasDel && cd.hasDict && PySem.HandSPX.refsVE bm
    | _, _ => false)
  | _ => false
def isErrB (K : PySem.W.Frag) (C : Addr) : Bool := PySem.W.keepIn K (.ref C) && (PySem.W.subIn K (.ref C) (.type "BaseException") == some true && (PySem.W.typeIn K (.ref C) == some (.type "type") && (PySem.W.findIn K (.ref C) "__getattribute__" == some (some (.builtin "BaseException.__getattribute__")) &&
  (PySem.W.findIn K (.ref C) "__getattr__" == some none && (PySem.W.hasDictIn K C && (PySem.W.findIn K (.ref C) "__class__" == some (some (.builtin "object.__class__")) && PySem.W.mroIn K C (.type "object") == some true))))))
def ownB (K : PySem.W.Frag) (L : List (Str × Addr)) (Cs cm : Addr) : Bool := PySem.W.specialIn K (.builtin "object.__class__") "__get__" == some (some (.builtin "getset_descriptor.__get__")) && (PySem.W.takesIn K (.builtin "object.__class__") == some true &&
  L.all fun e => isErrB K e.2 && (PySem.W.excIn K e.2 veBases "ValueError.__new__" && (PySem.W.exmOne K (.ref e.2) (.ref cm) == some false && (PySem.W.exmOne K (.ref e.2) (.ref Cs) == some true && L.all fun d => PySem.W.kitOne K (.ref e.2) (.ref d.2) == some (d.1 == e.1)))))
def limB (K : PySem.W.Frag) (cm fI : Addr) : Bool := isErrB K cm && (oexB K cm && (PySem.W.findIn K (.ref cm) "__setattr__" == some (some (.builtin "object.__setattr__")) && (PySem.W.findIn K (.ref cm) "limit" == some none && (PySem.W.findIn K (.ref cm) "__init__" == some (some (.ref fI)) &&
  (PySem.W.typeIn K (.ref fI) == some (.type "function") && PySem.W.exmOne K (.ref cm) (.ref cm) == some true)))))
theorem oex_of {K : PySem.W.Frag} {C : Addr} (h : oexB K C = true) : ∃ nm q N bs bm sn sub ab col dd k0 k1 k2 k3 k5, K.lookup C = some (excClassObj nm q C N bs bm true sn sub ab col dd k0 k1 k2 k3 k5 "ValueError.__new__") ∧ PySem.HandSPX.refsVE bm = true := by
  unfold oexB at h
  split at h
  · rename_i dd cd sl ho
    split at h
    · rename_i C' bm k0 k1 k2 k3 n k5 hm hs
      simp only [Bool.and_eq_true, beq_iff_eq, Bool.not_eq_true'] at h
      obtain ⟨⟨⟨⟨rfl, rfl⟩, hdel⟩, hdict⟩, hv⟩ := h
      obtain ⟨nm, bs, mro, ns, qn, hd, sn, sub, ab, col, del⟩ := cd
      dsimp only at hm hdel hdict
      subst hm hdel hdict
      have hsl : sl = #[k0, k1, k2, k3, some (.builtin "ValueError.__new__"), k5] := by
        obtain ⟨l⟩ := sl
        simp only at hs
        rw [hs]
      subst hsl
      exact ⟨nm, qn, ns, bs, bm, sn, sub, ab, col, dd, k0, k1, k2, k3, k5, ho, hv⟩
    · cases h
  · cases h
structure IsErr (K : PySem.W.Frag) (C : Addr) : Prop where
  kp : PySem.W.keepIn K (.ref C) = true
  sb : PySem.W.subIn K (.ref C) (.type "BaseException") = some true
  ty : PySem.W.typeIn K (.ref C) = some (.type "type")
  ga : PySem.W.findIn K (.ref C) "__getattribute__" = some (some (.builtin "BaseException.__getattribute__"))
  gg : PySem.W.findIn K (.ref C) "__getattr__" = some none
  hd : PySem.W.hasDictIn K C = true
  cl : PySem.W.findIn K (.ref C) "__class__" = some (some (.builtin "object.__class__"))
  mo : PySem.W.mroIn K C (.type "object") = some true
theorem isErr_of {K : PySem.W.Frag} {C : Addr} (h : isErrB K C = true) : IsErr K C := by
  simp only [isErrB, Bool.and_eq_true, beq_iff_eq] at h
  obtain ⟨h1, h2, h3, h4, h5, h6, h7, h8⟩ := h
  exact ⟨h1, h2, h3, h4, h5, h6, h7, h8⟩
/-- the classes by name -/
def clOf (L : List (Str × Addr)) : Str → Option Addr := fun nm => L.lookup nm
theorem clOf_mem {L : List (Str × Addr)} {nm : Str} {C : Addr} (h : clOf L nm = some C) : (nm, C) ∈ L := by
  unfold clOf at h
  induction L with
  | nil => cases h
  | cons e L ih =>
    obtain ⟨m, D⟩ := e
    rw [List.lookup_cons] at h
    split at h
    · rename_i q
      rw [beq_iff_eq] at q
      cases h; rw [q]; exact List.mem_cons_self
    · exact List.mem_cons_of_mem _ (ih h)
/-- all that is asked of the error classes -/
structure Errs (K : PySem.W.Frag) (mg : Str → Option Value) (L : List (Str × Addr)) (Cs cm : Addr) : Prop where
  mg : ∀ nm C, (nm, C) ∈ L → mg nm = some (.ref C)
  own : ownB K L Cs cm = true
section
variable {K : PySem.W.Frag} {mg : Str → Option Value} {L : List (Str × Addr)} {Cs cm : Addr} {T : List (Addr × Str)}
theorem Errs.at (F : Errs K mg L Cs cm) {nm : Str} {C : Addr} (h : clOf L nm = some C) : IsErr K C ∧ PySem.W.excIn K C veBases "ValueError.__new__" = true ∧ PySem.W.exmOne K (.ref C) (.ref cm) = some false ∧ PySem.W.exmOne K (.ref C) (.ref Cs) = some true ∧
    (∀ m D, (m, D) ∈ L → PySem.W.kitOne K (.ref C) (.ref D) = some (m == nm)) ∧ ExcC K C := by
  have q := F.own
  simp only [ownB, Bool.and_eq_true, beq_iff_eq, List.all_eq_true] at q
  obtain ⟨h1, h2, q⟩ := q
  obtain ⟨k1, k2, k3, k4, k5⟩ := q _ (clOf_mem h)
  have e := isErr_of k1
  exact ⟨e, k2, k3, k4, fun m D hm => k5 _ hm, ⟨e.ga, e.gg, e.sb, e.hd, e.cl, h1, h2, e.mo⟩⟩
theorem Errs.ownE (F : Errs K mg L Cs cm) {nm : Str} {C : Addr} (h : clOf L nm = some C) : OwnE (Be K T (clOf L) cm) mg nm := by
  obtain ⟨e, k2, k3, k4, k5, k6⟩ := F.at h
  exact ⟨C, F.mg nm C (clOf_mem h), k2, e.kp, e.sb, e.ty, fun H => ⟨C, h, rfl, rfl⟩⟩
theorem Errs.kit (F : Errs K mg L Cs cm) {nm m : Str} {C D : Addr} (h : clOf L nm = some C) (hm : (m, D) ∈ L) : ∃ C', mg m = some (.ref C') ∧ PySem.W.kitOne K (.ref C) (.ref C') = some (m == nm) :=
  ⟨D, F.mg m D hm, (F.at h).2.2.2.2.1 m D hm⟩
end
/-- what is asked of the class with a limit -/
structure Lims (K : PySem.W.Frag) (mg : Str → Option Value) (cm fI : Addr) : Prop where
  mg : mg "TooMany" = some (.ref cm)
  lim : limB K cm fI = true
section
variable {K : PySem.W.Frag} {mg : Str → Option Value} {L : List (Str × Addr)} {Cs cm fI : Addr} {T : List (Addr × Str)}
theorem Lims.at (F : Lims K mg cm fI) : IsErr K cm ∧ OexC K cm ∧ PySem.W.findIn K (.ref cm) "limit" = some none ∧ PySem.W.findIn K (.ref cm) "__init__" = some (some (.ref fI)) ∧ PySem.W.typeIn K (.ref fI) = some (.type "function") ∧ PySem.W.exmOne K (.ref cm) (.ref cm) = some true ∧ XfC K cm := by
  have q := F.lim
  simp only [limB, Bool.and_eq_true, beq_iff_eq] at q
  obtain ⟨h1, h2, h3, h4, h5, h6, h7⟩ := q
  have e := isErr_of h1
  exact ⟨e, ⟨oex_of h2, h3, e.sb, e.ty, e.kp⟩, h4, h5, h6, h7, ⟨e.ga, e.gg, e.sb, e.hd⟩⟩
theorem Lims.limE {P : Program} {w : World} {base : Heap} {fd : FuncData} {lv : Nat} (F : Lims K mg cm fI) (h : FnOk P w K mg base CX0 lv fI fd ["self", "limit"] (ExN.spTM K)) (hb : Binds K fd ["self", "limit"] []) : LimE (Be K T (clOf L) cm) P w mg base "TooMany" lv := by
  obtain ⟨e, h1, h2, h3, h4, h5, h6⟩ := F.at
  exact ⟨cm, fI, fd, F.mg, h1, h2, h3, h4, h, hb, fun i dd fs H k1 k2 => ⟨rfl, dd, fs, rfl, k1, k2⟩⟩
end
end Rf

set_option maxRecDepth 100000
set_option maxHeartbeats 4000000
namespace Rf
open PySem PySem.Spec PyProof.Rows L2 HotY HotP L2H HotX LamX
/-! ### defs that make lambdas -/
/-- the name of the lambdas of a def -/
def lamName (x : Str) : Str := x ++ ".<locals>." ++ "<lambda>"
/-- a def of the text whose code object stands at c, its table at P -/
structure DefL (B : Bs) (mg : Str → Option Value) (base : Heap) (Tb : List (Addr × Str)) (x : Str) (st : Stmt) (ps : List Str) : Prop where
  ex : ∃ (a : Addr) (oc : Value) (od : Option Addr) (kV dc pm : Value) (an : Option Addr) (c P : Addr) (ct : Value) (osl : Array (Option Value)),
    B.K.lookup a = some ⟨oc, od, .func (PySem.W.fnOf x x (defArgs st) (defBody st) (defScope st) .none kV dc pm an (.ref c) ct), osl⟩ ∧ PySem.W.codeIn B.K (.ref c) x = true ∧ PySem.W.keepIn B.K (.ref a) = true ∧
    L2.Binds B.K (PySem.W.fnOf x x (defArgs st) (defBody st) (defScope st) .none kV dc pm an (.ref c) ct) ps [] ∧ mg x = some (.ref a) ∧ TabB base mg c P ∧ (P, lamName x) ∈ Tb ∧ ∀ p ∈ Tb, p.1 = P → p.2 = lamName x
theorem DefL.fun1 {B : Bs} {mg : Str → Option Value} {base : Heap} {Tb : List (Addr × Str)} {x : Str} {st : Stmt} {ps : List Str} (d : DefL B mg base Tb x st ps) :
    ∃ (a : Addr) (fd : FuncData) (c P : Addr), Fun B.K x x st a fd ∧ L2.Binds B.K fd ps [] ∧ mg x = some (.ref a) ∧ TabB base mg c P ∧ (P, lamName x) ∈ Tb ∧ (∀ p ∈ Tb, p.1 = P → p.2 = lamName x) ∧
      ∀ (oc : Value) (od : Option Addr) (kV dc pm : Value) (an : Option Addr) (cdv ct : Value) (osl : Array (Option Value)), B.K.lookup a = some ⟨oc, od, .func (PySem.W.fnOf x x (defArgs st) (defBody st) (defScope st) .none kV dc pm an cdv ct), osl⟩ → cdv = .ref c := by
  obtain ⟨a, oc, od, kV, dc, pm, an, c, P, ct, osl, h1, h2, h3, h4, h5, h6, h7, h8⟩ := d.ex
  refine ⟨a, _, c, P, fun_mk h1 h2 h3, h4, h5, h6, h7, h8, fun oc' od' kV' dc' pm' an' cdv' ct' osl' h => ?_⟩
  rw [h1] at h
  have h := Option.some.inj h
  have h := congrArg (fun o : Obj => match o.data with | .func fd => fd.code | _ => .none) h
  exact h.symm
section
variable {B : Bs} {P : Program} {w : World} {mg : Str → Option Value} {base : Heap} {Tb : List (Addr × Str)}
theorem good_DL {x : Str} {st : Stmt} {N ps : List Str} {k : Nat} {fn : Rho → OS} (d : DefL B mg base Tb x st ps) (S : FnScope N ps (defScope st))
    (hbody : ∀ (f c P1 : Addr), TabB base mg c P1 → (P1, lamName x) ∈ Tb → (∀ p ∈ Tb, p.1 = P1 → p.2 = lamName x) → ∀ (A : Around) (outer : List Env) (s : Shared) (H : Hp) (E : XK), Room k (A.deeper (envOfC x (defScope st) s.heap.objs.size f (.ref c))) →
      PSs (cxOf (L2N.CX P w) P w B.K mg base N x (defScope st) f (.ref c) A outer s H E) (defBody st) (tSt B (wishOf E) fn)) : FnGood B P w mg base (k + 1) x ps.length (mD (runD ps.length N.length fn)) := by
  obtain ⟨a, fd, c, P1, F, hb, hm, h1, h2, h3, h4⟩ := d.fun1
  refine ⟨a, fd, ps, ok_DC F S (fun cdv hc A outer s H E hr => ?_), hm, F.kp, hb, rfl⟩
  obtain ⟨oc, od, kV, dc, pm, an, ct, osl, e1, e2⟩ := hc
  rw [e1] at e2
  have e := h4 _ _ _ _ _ _ _ _ _ e2
  subst e
  exact hbody a c P1 h1 h2 h3 A outer s H E hr
theorem good_RL {x : Str} {st : Stmt} {N ps : List Str} {k : Nat} {fn : Rho → OS} (d : DefL B mg base Tb x st ps) (S : FnScope N ps (defScope st))
    (hbody : ∀ (f c P1 : Addr), TabB base mg c P1 → (P1, lamName x) ∈ Tb → (∀ p ∈ Tb, p.1 = P1 → p.2 = lamName x) → ∀ (A : Around) (outer : List Env) (s : Shared) (H : Hp) (E : XK), Room k (A.deeper (envOfC x (defScope st) s.heap.objs.size f (.ref c))) →
      PSs (cxOf (L2N.CX P w) P w B.K mg base N x (defScope st) f (.ref c) A outer s H E) (defBody st) (tSt B (wishOf E) fn)) : FnGood B P w mg base (k + 1) x ps.length (mR (runR ps.length N.length fn)) := by
  obtain ⟨a, fd, c, P1, F, hb, hm, h1, h2, h3, h4⟩ := d.fun1
  refine ⟨a, fd, ps, ok_RC F S (fun cdv hc A outer s H E hr => ?_), hm, F.kp, hb, rfl⟩
  obtain ⟨oc, od, kV, dc, pm, an, ct, osl, e1, e2⟩ := hc
  rw [e1] at e2
  have e := h4 _ _ _ _ _ _ _ _ _ e2
  subst e
  exact hbody a c P1 h1 h2 h3 A outer s H E hr
/-! ### the def that says the word -/
structure WordD (B : Bs) (P : Program) (w : World) (mg : Str → Option Value) (base : Heap) (cl : Str → Option Addr) (cm : Addr) (n : Nat) (fn : Addr → (Str → Bool) → Rho → OS) : Prop where
  ex : ∃ (g : Addr) (pg : Arguments) (bg : List Stmt) (sg : Scope) (dV kV doc pm cdv ct oc : Value) (an od : Option Addr) (osl : Array (Option Value)) (Ng : List Str), mg "_law_word" = some (.ref g) ∧ PySem.W.keepIn B.K (.ref g) = true ∧
    B.K.lookup g = some ⟨oc, od, .func (PySem.W.fnOf "_law_word" "_law_word" pg bg sg dV kV doc pm an cdv ct), osl⟩ ∧ PySem.W.codeIn B.K cdv "_law_word" = true ∧ L2.Binds B.K (PySem.W.fnOf "_law_word" "_law_word" pg bg sg dV kV doc pm an cdv ct) ["call"] [] ∧
    FnScope Ng ["call"] sg ∧ Ng[0]? = some ("call" : Str) ∧ Vis sg "call" ∧ ∀ X : Cx, X.K = B.K → X.mg = mg → X.prog = P → X.w = w → X.base = base → Room 3 X.A → LamN.GivesToN X Ng "_law_word" sg g cdv bg "call" (X.env.qual ++ "<lambda>") (TTw B cl cm n fn)
end
theorem g_word {B : Bs} {X : Cx} {Wx : WX} {Tb : List (Addr × Str)} {cl : Str → Option Addr} {cm : Addr} {n : Nat} {fn : Addr → (Str → Bool) → Rho → OS} {kw : Str → Option Str} {k : Nat} {c P1 : Addr} {params : Arguments} {body : Expr} {scope : Scope} {p lpos pos : Pos} {f : Rho → O D} {x : Str} (hB : B = Be B.K Tb cl cm) (hK : X.K = B.K) (W : WordD B X.prog X.w X.mg X.base cl cm n fn) (KW : KwOk cl n fn kw)
    (TB : TabB X.base X.mg c P1) (hcode : X.env.code = .ref c) (hq : X.env.qual ++ "<lambda>" = lamName x) (hmT : (P1, lamName x) ∈ Tb) (hu : ∀ p ∈ Tb, p.1 = P1 → p.2 = lamName x) (hr : Room (k + 3) X.A)
    (hbody : ∀ (A : Around) (outer : List Env) (s : Shared) (H : Hp) (E : XK) (f' c' : Addr), Room (k + 1) (A.deeper (lamEnv X scope s.heap.objs.size f' c')) → PE (LamN.lamCxN X A outer s H E scope f' c') body (tEv B (wishOf E) f))
    (L : lamSB X.env.scope scope = true := by kernel_rfl) (hdef : defaultsOf params X.env = ([], []) := by rfl)
    (hbind : ∀ (q : Str) (cl : List (Str × Addr)) (pm cv ctv : Value), bindArgs (PySem.W.kla_fn "<lambda>" q params body scope cl pm cv ctv) ⟨[], []⟩ = pure [] := by intros; rfl) (hg : Gl X "_law_word" := by rfl) :
    PE X (.Call (.Name "_law_word" p) [.Lambda params body scope lpos] [] pos) (tEv B Wx (sWord kw f)) := by
  obtain ⟨g, pg, bg, sg, dV, kV, doc, pm, cdv, ct, oc, an, od, osl, Ng, h1, h2, h3, h4, h5, h6, h7, h8, h9⟩ := W.ex
  have G := h9 X hK rfl rfl rfl rfl (hr.mono (by omega))
  rw [← hK] at h2 h3 h4 h5
  have q := LamN.pe_lamcallN (k := k + 1) (p := p) (lpos := lpos) (pos := pos) hg h1 h2 h3 h4 h5 h6 h7 h8 G TB hcode (by rw [hq]; exact hmT) (by rw [hq]; exact hu) hr (lamS_by L) hdef hbind (fun A outer s H E f' c' hr' => hbody A outer s H E f' c' hr')
  rw [hB]
  rw [hB] at q
  exact q.imp' fun σ H Q h => word_read KW h
end Rf

set_option maxRecDepth 100000
set_option maxHeartbeats 4000000
namespace Rf
open PySem PySem.Spec PyProof.Rows L2 HotY HotP L2H HotX LamX
/-! ### __init__ of the class with a limit -/
theorem int_len {i : Int} {k : Nat} (hk : 0 < k) (h : i.natAbs.log2 < k) : ((toString i : String) : Str).length ≤ k + 2 := by
  have e := int_text_length_le hk h
  have q := PySem.ofString_length (toString i)
  omega

abbrev limBody (p1 p2 p4 p5 p6 p7 p8 p9 p10 p11 p12 p13 p14 p15 : Pos) (j : Nat) : List Stmt :=
  [.Expr (.Call (.Attribute (.Name "SpreadError" p1) "__init__" p2) [.Name "self" p4, .BinOp (.Constant (.str "more than ") j p5) .Add (.Call (.Name "str" p6) [.Name "limit" p7] [] p8) p9] [] p10) p11, .Assign [.Attribute (.Name "self" p12) "limit" p13] (.Name "limit" p14) p15]
theorem lim_init {P : Program} {w : World} {K : PySem.W.Frag} {mg : Str → Option Value} {base : Heap} {Cs f : Addr} {mc : Value} {st : Stmt} {fd : FuncData} {p1 p2 p4 p5 p6 p7 p8 p9 p10 p11 p12 p13 p14 p15 : Pos} {j : Nat} (F : Fun K "__init__" "TooMany.__init__" st f fd) (S : FnScope ["self", "limit"] ["self", "limit"] (defScope st))
    (hst : defBody st = limBody p1 p2 p4 p5 p6 p7 p8 p9 p10 p11 p12 p13 p14 p15 j) (l1 : (defScope st).names.lookup ("self" : Str) = some .local) (l2 : (defScope st).names.lookup ("limit" : Str) = some .local) (g1 : (defScope st).names.lookup ("SpreadError" : Str) = some .globalImplicit) (g2 : (defScope st).names.lookup ("str" : Str) = some .globalImplicit)
    (hm : mg "SpreadError" = some (.ref Cs)) (rd : ClX.CRead K Cs mc) (vV : PySem.W.findCls K (.ref Cs) mc "__init__" = some (.val (.builtin "ValueError.__init__"))) (hstr : mg "str" = none) {pl : Env → Sem Bool}
    (hc : ∀ env : Env, eval (.Call (.Attribute (.Name "SpreadError" p1) "__init__" p2) [.Name "self" p4, .BinOp (.Constant (.str "more than ") j p5) .Add (.Call (.Name "str" p6) [.Name "limit" p7] [] p8) p9] [] p10) env = (do
      let ov ← eval (.Name "SpreadError" p1) env
      standAt p2.atName
      let (f, first) ← holding [ov] (getMethod ov "__init__" (pl env))
      callWith p10 f first (backTo p10 (starEach [.Name "self" p4, .BinOp (.Constant (.str "more than ") j p5) .Add (.Call (.Name "str" p6) [.Name "limit" p7] [] p8) p9] env)) (backToKw p10 (keywordEach [] env)))) : FnOk P w K mg base CX0 1 f fd ["self", "limit"] (ExN.spTM K) := by
  refine F.ok S (fun vs H Q E h => ?_) fun cdv A outer t H vs Q E hr h => ?_
  · obtain ⟨a, C, i, rfl, _⟩ := h; rfl
  · rw [hst]
    obtain ⟨a, C, i, rfl, h1, h2, h3, h4, h5⟩ := h
    refine ⟨_, pss_cons (ps_expr (ExN.pe_ownInit g1 hm (by decide) rd vV (pa_cons (pv 0 rfl (.inl l1)) (pa_cons (pe_op op_add_str pe_str (pe_callTy call_str_int g2 hstr (by decide +kernel) (pa_cons (pv 1 rfl (.inl l2)) pa_nil))) pa_nil)) (hc _))) (pss_one (ps_ost (pv 0 rfl (.inl l1)) (pv 1 rfl (.inl l2)))), ?_⟩
    have hlog : i.natAbs.log2 < 64 := by
      by_cases hz : i.natAbs = 0
      · rw [hz]; decide
      · exact (Nat.log2_lt hz).mpr h3
    refine ⟨.ref a, rfl, .int i, rfl, i, rfl, by omega, _, _, rfl, rfl, ?_, a, C, _, rfl, by simp, h1, h4, .int i, rfl, .ref a, rfl, a, C, rfl, h1, h2, .inl ⟨h4, fun dx n1 n2 => h5 dx n1 n2⟩⟩
    have hl := int_len (i := i) (k := 64) (by decide) hlog
    have e : ("more than " : Str).length = 10 := by decide +kernel
    rw [line_eq, e]
    omega
/-! ### the def that says the word -/
abbrev wordBody (p1 p2 p3 p4 p5 p6 p7 p8 p9 p10 p11 p12 p13 p14 p15 p16 p17 p18 p19 p20 p21 p22 p23 p24 p25 : Pos) (j1 j2 : Nat) : List Stmt :=
  [.Assign [.Name "found" p1] (.Constant (.str "") j1 p2) p3,
   .Try [.Expr (.Call (.Name "call" p4) [] [] p5) p6]
    [.ExceptHandler (some (.Name "TooMany" p7)) (some "e") [.Assign [.Name "found" p8] (.BinOp (.Constant (.str "full") j2 p9) .Add (.Call (.Name "str" p10) [.Attribute (.Name "e" p11) "limit" p12] [] p13) p14) p15] p16,
     .ExceptHandler (some (.Name "SpreadError" p17)) (some "e") [.Assign [.Name "found" p18] (.Call (.Name "_law_kind_of" p19) [.Name "e" p20] [] p21) p22] p23] [] [] p24,
   .Return (some (.Name "found" p25)) p25]
abbrev wordN : List Str := ["call", "found", "e"]
structure WordScope (sg : Scope) : Prop where
  c : sg.names.lookup ("call" : Str) = some .local
  f : sg.names.lookup ("found" : Str) = some .local
  e : sg.names.lookup ("e" : Str) = some .local
  g1 : sg.names.lookup ("TooMany" : Str) = some .globalImplicit
  g2 : sg.names.lookup ("SpreadError" : Str) = some .globalImplicit
  g3 : sg.names.lookup ("_law_kind_of" : Str) = some .globalImplicit
  g4 : sg.names.lookup ("str" : Str) = some .globalImplicit
theorem word_gives {B : Bs} {X : Cx} {L : List (Str × Addr)} {Cs cm fI fK g : Addr} {fdK : FuncData} {n : Nat} {fn : Addr → (Str → Bool) → Rho → OS} {sg : Scope} {cdg : Value} {q : Str} {p1 p2 p3 p4 p5 p6 p7 p8 p9 p10 p11 p12 p13 p14 p15 p16 p17 p18 p19 p20 p21 p22 p23 p24 p25 p26 : Pos} {j1 j2 : Nat} (hK : X.K = B.K) (F : Errs B.K X.mg L Cs cm) (M : Lims B.K X.mg cm fI) (hs : X.mg "SpreadError" = some (.ref Cs))
    (hstr : X.mg "str" = none) (FK : FnP X.prog X.w B.K X.mg X.base CX0 1 fK fdK ["e"] (spKind B (clOf L) n fn)) (hmk : X.mg "_law_kind_of" = some (.ref fK)) (kpk : PySem.W.keepIn B.K (.ref fK) = true) (bk : L2.Binds B.K fdK ["e"] []) (S : WordScope sg) (hr : Room 3 X.A) :
    LamN.GivesToN X wordN "_law_word" sg g cdg
      [.Assign [.Name "found" p1] (.Constant (.str "") j1 p2) p3,
       .Try [.Expr (.Call (.Name "call" p4) [] [] p5) p6]
        [.ExceptHandler (some (.Name "TooMany" p7)) (some "e") [.Assign [.Name "found" p8] (.BinOp (.Constant (.str "full") j2 p9) .Add (.Call (.Name "str" p10) [.Attribute (.Name "e" p11) "limit" p12] [] p13) p14) p15] p16,
         .ExceptHandler (some (.Name "SpreadError" p17)) (some "e") [.Assign [.Name "found" p18] (.Call (.Name "_law_kind_of" p19) [.Name "e" p20] [] p21) p22] p23] [] [] p24,
       .Return (some (.Name "found" p25)) p26] "call" q (TTw B (clOf L) cm n fn) := by
  intro f c' s H Q tl act hc h
  have hnd : wordN.Nodup := by decide +kernel
  obtain ⟨eM, hO, hno, _, _, hcm, hX⟩ := M.at
  have hX' : XfC X.K cm := by rw [hK]; exact hX
  have hno' : PySem.W.findIn X.K (.ref cm) "limit" = some none := by rw [hK]; exact hno
  -- the two suites
  let ts1 : Addr → Value → Option Addr → TS := fun a cls d => tAsg (tOp (fun x y H Q => ∃ i j, x = .str i ∧ y = .str j ∧ i.length + j.length ≤ sizeLine ∧ Q (.str (i ++ j)) H) (tC (.str "full")) (tCB (fun xs H Q => ∃ i, xs = [.int i] ∧ i.natAbs.log2 < 1920 ∧ Q (.str (toString i)) H) (tCons (tXf a cls d cm "limit" (tVar 2)) tNil))) (gName 1)
  let ts2 : Addr → Value → Option Addr → TS := fun a cls d D σ H => ∀ oe : Obj, L2N.Zn cls d oe → (∃ vs, oe.data = .fields vs) → tAsg (tCallS (spKind B (clOf L) n fn (a, oe)) (fun _ => E0) (tCons (tVar 2) tNil)) (gName 1) D σ H
  have hh : L2N.HdsAs (cxOf C8.CX0 X.prog X.w X.K X.mg X.base wordN "_law_word" sg g cdg X.A X.stack s H C8.E0).nox "e"
      [.ExceptHandler (some (.Name "TooMany" p7)) (some "e") [.Assign [.Name "found" p8] (.BinOp (.Constant (.str "full") j2 p9) .Add (.Call (.Name "str" p10) [.Attribute (.Name "e" p11) "limit" p12] [] p13) p14) p15] p16,
       .ExceptHandler (some (.Name "SpreadError" p17)) (some "e") [.Assign [.Name "found" p18] (.Call (.Name "_law_kind_of" p19) [.Name "e" p20] [] p21) p22] p23]
      [(.ref cm, ts1), (.ref Cs, ts2)] := by
    refine .cons ⟨S.g1, by decide, .inl M.mg⟩ (fun a oe cls d pn hz hf => ?_) (.cons ⟨S.g2, by decide, .inl hs⟩ (fun a oe cls d pn hz hf => ?_) .nil)
    · exact pss_one (ps_set (i := 1) hnd rfl (.inl S.f) (pe_op op_add_str pe_str (pe_callTy call_str_int S.g4 hstr (by decide +kernel) (pa_cons (pe_xf hX' hno' hz.zc hf (pv 2 rfl (.inl S.e))) pa_nil))))
    · have hot : Hot1 ((cxOf C8.CX0 X.prog X.w X.K X.mg X.base wordN "_law_word" sg g cdg X.A X.stack s H C8.E0).nox.suite a ((a, oe) :: pn)).A (a, oe) := by
        obtain ⟨vs, hv⟩ := hf
        exact ⟨rfl, vs, hv, hz.2.2 vs hv⟩
      have hrr : RoomH 1 ((cxOf C8.CX0 X.prog X.w X.K X.mg X.base wordN "_law_word" sg g cdg X.A X.stack s H C8.E0).nox.suite a ((a, oe) :: pn)).A := by
        have r := hr.deeper (envOfC "_law_word" sg s.heap.objs.size g cdg)
        exact ⟨by have := r.dp; show (X.A.deeper (envOfC "_law_word" sg s.heap.objs.size g cdg)).depth + _ < _; omega, by have := r.un; show (X.A.deeper (envOfC "_law_word" sg s.heap.objs.size g cdg)).units + _ < _; omega⟩
      rw [← hK] at FK kpk bk
      exact (pss_one (ps_set (i := 1) hnd rfl (.inl S.f) (pe_callP (X := (cxOf C8.CX0 X.prog X.w X.K X.mg X.base wordN "_law_word" sg g cdg X.A X.stack s H C8.E0).nox.suite a ((a, oe) :: pn)) (p := (a, oe)) (E := fun _ => E0) FK hrr hot List.mem_cons_self S.g3 hmk kpk bk (fun _ _ _ _ _ _ _ z => z.elim) (pa_cons (pv 2 rfl (.inl S.e)) pa_nil)))).imp' fun D σ H q => q oe hz hf
  refine ⟨_, pss_cons (ps_set (i := 1) hnd rfl (.inl S.f) pe_str) (pss_cons (L2N.ps_try_named (i := 2) (tb := fun W D σ H => ∃ Ech : XK, (∀ (cls : Value) (d : Option Addr) (σ' : St) (H' : Hp), σ'.length = 3 → Ech cls d H' → W cls d σ' H') ∧ σ[0]? = some (some (.ref f)) ∧ H c' = some (LamX.CodeO c' q) ∧ tl Ech H (fun _ H' => D.nx σ H')) rfl rfl hnd rfl S.e (fun W pn xe tk _ => ?_) hh) (pss_one (ps_ret (pv 1 rfl (.inl S.f))))), ?_⟩
  · refine ⟨fun pins s' σ H' D I h' => ?_⟩
    obtain ⟨Ech, hW, h1, h2, h3⟩ := h'
    have tk' : L2N.Takes ((cxOf C8.CX0 X.prog X.w X.K X.mg X.base wordN "_law_word" sg g cdg X.A X.stack s H C8.E0).tr pn xe) (fun cls d σ1 H1 => σ1.length = 3 → W cls d σ1 H1) := fun u s1 ⟨a, Bh, sI, pins1, σ1, H1, cls, d, e, I1, nb, up, sky, na, os, ag, w⟩ =>
      tk u s1 ⟨a, Bh, sI, pins1, σ1, H1, cls, d, e, I1, nb, up, sky, na, os, ag, w I1.len⟩
    exact (pss_one (ps_expr (pos := p6) (act _ pn xe Ech p4 p5 tk' (fun cls d σ1 H1 hE hl => hW cls d σ1 H1 hl hE)))).run pins s' σ H' D I ⟨h1, h2, h3⟩
  · refine ⟨Ew B (clOf L) cm n fn Q, fun cls d σ' H' hl hE => ?_, rfl, hc, h⟩
    have get2 : ∀ (v : V), (σ'.set 2 (some v))[2]? = some (some v) := fun v => List.getElem?_set_self (by omega)
    have get1 : ∀ (u v : V), (((σ'.set 2 (some u)).set 1 (some v)).set 2 none)[1]? = some (some v) := fun u v => by
      rw [List.getElem?_set_ne (by decide), List.getElem?_set_self (by rw [List.length_set]; omega)]
    rcases hE with ⟨i, dd, fs, h1, h2, h3, h4, h5, h6⟩ | ⟨nm, D, wd, S1, ρ1, σ1, G1, h1, h2, h3, h4, h5, h6⟩
    · refine ⟨true, (by rw [h1]; show PySem.W.exmOne X.K _ _ = _; rw [hK]; exact hcm), fun _ a ha => ?_, (fun z => nomatch z)⟩
      refine ⟨.ref a, get2 _, rfl, h1, dd, fs, .int i, h2, h3, h4, i, rfl, by omega, _, _, rfl, rfl, ?_, _, get1 _ _, h6⟩
      have hl := int_len (i := i) (k := 1000) (by decide) h5
      have e : ("full" : Str).length = 4 := by decide +kernel
      rw [line_eq, e]
      omega
    · obtain ⟨k0, k1, k2, k3, k4, k5⟩ := F.at h1
      refine ⟨false, (by rw [h2]; show PySem.W.exmOne X.K _ _ = _; rw [hK]; exact k2), (fun z => nomatch z), fun _ => ⟨true, (by rw [h2]; show PySem.W.exmOne X.K _ _ = _; rw [hK]; exact k3), fun _ a ha => ?_, (fun z => nomatch z)⟩⟩
      intro oe hz hf
      have hz := hz
      obtain ⟨ρ', hρ⟩ := h4 a
      refine ⟨.ref a, get2 _, nm, D, wd, ρ', S1, ρ1, σ1, G1, rfl, h1, ?_, hf, h5, hρ, fun H'' x => ⟨_, get1 _ _, h6 H'' x⟩⟩
      rw [← h2, ← h3]
      exact hz.zc
end Rf
namespace Rf
open PySem PySem.Spec PyProof.Rows L2 HotY HotP L2H HotX LamX
section
variable {X : Cx} {B : Bs} {Wx : WX}
theorem g_isk (i : Nat) {p : Addr × Obj} {D : Addr} {x c : Str} {b : Bool} {p1 p2 p3 pos : Pos} (hp : p ∈ X.pn) (C : ExcC X.K D) (hz : Zc (.ref D) none p.2) (hf : ∃ vs, p.2.data = .fields vs) (hm : X.mg "isinstance" = none) (h : ∃ C', X.mg c = some (.ref C') ∧ PySem.W.kitOne X.K (.ref D) (.ref C') = some b)
    (hN : X.N[i]? = some x := by rfl) (hv : Vis X.env.scope x := by first | exact .inl rfl | exact .inr (.inl rfl) | exact .inr (.inr rfl)) (hd : (x == ("__debug__" : Str)) = false := by decide) (hcd : (x == ("__classdict__" : Str)) = false := by decide) (hg : Gl X "isinstance" := by rfl) (hgc : Gl X c := by rfl) (hdc : (c == ("__debug__" : Str)) = false := by decide)
    (hs : starEach [.Name x p2, .Name c p3] X.env = (false, eval (.Name x p2) X.env) :: starEach [.Name c p3] X.env := by rfl) (hs2 : starEach [.Name c p3] X.env = (false, eval (.Name c p3) X.env) :: starEach [] X.env := by rfl) (hpl : (backTo pos (starEach [.Name c p3] X.env)).any (·.1) = false := by rfl) :
    PE X (.Call (.Name "isinstance" p1) [.Name x p2, .Name c p3] [] pos) (tEv B Wx (sIsx i p.1 b)) := by
  obtain ⟨C', h1, h2⟩ := h
  exact g_isx i hp C hz hf hm h1 h2 hN hv hd hcd hg hgc hdc hs hs2 hpl
end
theorem takesN0 {X : Cx} : L2N.Takes X wNo := fun _ _ ⟨_, _, _, _, _, _, _, _, _, _, _, _, _, _, _, _, z⟩ => z.elim
section
variable {X : Cx} {B : Bs} {Wx : WX}
theorem gq_lc2 (i : Nat) (own : List (Str × Nat)) (vs1 : List Nat) {y : Str} {py : Pos} {elt tg iter tg1 iter1 : Expr} {ifs ifs1 : List Expr} {scope : Scope} {pos spos : Pos} {t t1 : Tg} {fi fi1 : Rho → O (List Rf.D)} {fc fc1 fe : Rho → O Rf.D} (hc : X.calm = true) (hN : X.N.Nodup) (hi : PI X tg iter (tIt B Wx fi)) (hg : PBl X scope fun Y => PG Y tg (tTg B t)) (hf : PBl X scope fun Y => PTs Y ifs (tEt B wNo fc)) (hi1 : PBl X scope fun Y => PI Y tg1 iter1 (tIt B wNo fi1)) (hg1 : PBl X scope fun Y => PG Y tg1 (tTg B t1)) (hf1 : PBl X scope fun Y => PTs Y ifs1 (tEt B wNo fc1)) (he : PBl X scope fun Y => PE Y elt (tEv B wNo fe))
    (hy : X.N[i]? = some y := by rfl) (hyl : X.env.scope.names.lookup y = some .local := by rfl) (hsw : swapsWith (.ListComp elt [⟨tg, iter, ifs, 0⟩, ⟨tg1, iter1, ifs1, 0⟩] scope pos) (some (.Name y py)) spos.line X.env = pure true := by rfl)
    (ok : blkC X.N X.env.scope scope own = true := by kernel_rfl) (hv : ∀ i ∈ vs1, i ∈ own.map (·.2) := by decide) (ht : ∀ i ∈ t.slots, i ∈ own.map (·.2) := by decide) (ht1 : ∀ i ∈ t1.slots, i ∈ vs1 := by decide) (hs : ∀ x, foldedSetIterable iter X.env x = pure x := by intro _; rfl) (hs1 : ∀ env x, foldedSetIterable iter1 env x = pure x := by intro _ _; rfl) :
    PS X (.Assign [.Name y py] (.ListComp elt [⟨tg, iter, ifs, 0⟩, ⟨tg1, iter1, ifs1, 0⟩] scope pos) spos) (tSt B Wx (sAsg (.nm i) (sFrz (sLc2 t (own.map (·.2)) fi fc fi1 t1 vs1 fc1 fe)))) := q_lc2 hc hN hy hyl hsw hi (blkOk_by ok) hv ht ht1 hg hf hi1 hg1 hf1 he hs hs1
end
def sItemsL (fa : Rho → O D) : Rho → O (List D) := fun ρ => (fa ρ).bind fun x ρ1 => match x with | .list xs => .ok xs ρ1 | _ => .no
theorem gi_itemsS {X : Cx} {B : Bs} {Wx : WX} {tg e : Expr} {fa : Rho → O D} (hK : X.K = B.K) (he : PE X e (tEv B Wx fa)) : PIS X tg e (tIt B Wx (sItemsL fa)) := ri_itemsS hK he
abbrev errNames : List Str := ["InvalidWeb", "InvalidLot", "InvalidPlace", "InvalidKind", "InvalidBound", "InvalidNumber", "InvalidTies", "InvalidSteps", "InvalidFacts", "InvalidSwitch", "InvalidText", "Unlike", "NothingToUndo"]
def kwL : List (Str × Str) := [("InvalidWeb", "web"), ("InvalidLot", "lot"), ("InvalidPlace", "place"), ("InvalidKind", "kind"), ("InvalidBound", "bound"), ("InvalidNumber", "number"), ("InvalidTies", "ties"), ("InvalidSteps", "steps"), ("InvalidFacts", "facts"), ("InvalidSwitch", "switch"), ("InvalidText", "text"), ("Unlike", "unlike"), ("NothingToUndo", "undo")]
def kwd (nm : Str) : Option Str := kwL.lookup nm
theorem kwd_mem {nm z : Str} (h : kwd nm = some z) : (nm, z) ∈ kwL := by
  unfold kwd at h
  generalize kwL = l at h
  induction l with
  | nil => cases h
  | cons e l ih =>
    obtain ⟨m, y⟩ := e
    rw [List.lookup_cons] at h
    split at h
    · rename_i q
      rw [beq_iff_eq] at q
      cases h; rw [q]; exact List.mem_cons_self
    · exact List.mem_cons_of_mem _ (ih h)
theorem isx_at (i : Nat) (a : Addr) (b : Bool) (ρ : Rho) (h : ρ[i]? = some (some (.raw (.ref a)))) : sIsx i a b ρ = .ok (.bool b) ρ := by
  unfold sIsx; rw [h]; dsimp only; rw [if_pos rfl]
def kwPairs (b : Str → Bool) : List D := kwL.map fun e => PyData.tuple [.str e.2, .bool (b e.1)]
def kwEnd : Rho → OS := (sSeq (sRet (sM1 dJoin (sCon (.str " ")) (sFrz (sLc (.tp [2, 3]) [2, 3] (sItemsL (sVar 1)) (sVar 3) (sVar 2))))) sSkip)
def retIs (o : OS) (z : Str) : Bool := match o with
  | .ret (.str y) _ => y == z
  | _ => false
theorem retIs_of {o : OS} {z : Str} (h : retIs o z = true) : ∃ ρ', o = .ret (.str z) ρ' := by
  unfold retIs at h
  split at h
  · rename_i y ρ'
    rw [beq_iff_eq] at h
    exact ⟨ρ', by rw [h]⟩
  · cases h
theorem kwok_of {cl : Str → Option Addr} {fn : Addr → (Str → Bool) → Rho → OS} (h0 : ∀ a b, fn a b (start0 4 [.raw (.ref a)]) = kwEnd [some (.raw (.ref a)), some (.dat (.list (kwPairs b))), none, none]) : KwOk cl 4 fn kwd := ⟨fun nm z h a => by
  have h := kwd_mem h
  rw [h0]
  simp only [kwL, List.mem_cons, Prod.mk.injEq, List.not_mem_nil, or_false] at h
  rcases h with ⟨rfl, rfl⟩ | ⟨rfl, rfl⟩ | ⟨rfl, rfl⟩ | ⟨rfl, rfl⟩ | ⟨rfl, rfl⟩ | ⟨rfl, rfl⟩ | ⟨rfl, rfl⟩ | ⟨rfl, rfl⟩ | ⟨rfl, rfl⟩ | ⟨rfl, rfl⟩ | ⟨rfl, rfl⟩ | ⟨rfl, rfl⟩ | ⟨rfl, rfl⟩
  all_goals exact retIs_of (by kernel_rfl)⟩
end Rf

set_option maxRecDepth 100000
set_option maxHeartbeats 4000000
namespace Rf
open PySem PySem.Spec PyProof.Rows L2 LamX
/-! ### a law's entry, with tables -/
/-- what the top says of the code objects of its defs -/
def TopTabs (q : Program) (mg : Str → Option Value) (K : PySem.W.Frag) (h : Heap) : Prop := ∀ x : Str, ((recsOf q).any fun e => e.name == x) = true → ∀ (f c P : Addr) (o oc : Obj) (fd : FuncData) (vs : Array Value), mg x = some (.ref f) → K.lookup f = some o → o.data = .func fd → fd.code = .ref c → K.lookup c = some oc → oc.data = .fields vs → vs[11]? = some (.ref P) →
  PySem.W.CodeHd h c P ∧ h.get? P = some { cls := .none, data := .fields #[] }
theorem walk_ofTop {l : PySem.W.OpenLaw} {n k : Nat} {q : Program} {loose : List Str} {XP : (Str → Option Value) → Heap → Prop} {YP : World → Heap → Prop} {d : DefRec} {K : Params → PySem.W.Frag} {CX : World → CXT} {x : Str}
    (hn : l.most = some n) (hn2 : n ≤ sizeLine) (hdf : d.params.defaults = []) (hr : Room k callerA) (hY : ∀ (w : World) (h : Heap), YP w h → (K w.params).In h)
    (F : ∀ (w : World) (mg : Str → Option Value) (fa : Addr) (h : Heap), YP w h → (K w.params).In h → h.Ns mainGlobals mg → mg d.name = some (.ref fa) → TopTabs q mg (K w.params) h → LawAtS l w (K w.params) (CX w) k n x mg fa h)
    (hCX : ∀ (w : World) (H : Hp) (s : Shared) (e : Value) (s' : Shared), CX w [] H s (fun _ _ _ => False) e s' → False) :
    PySem.W.WalkO q loose XP YP l.row.toRowW d [] (fun f vs => PySem.call f vs) := by
  refine Att.attach_callB hn hdf fun w s₀ s₁ mg mb fa o pm cd doc a vs ns G Y ho hd hcd hmg hobj hints hlen hbits hg => ?_
  have KX := hY w _ Y
  have tt : TopTabs q mg (K w.params) s₁.heap := fun y hrec f c P o1 oc fd1 vs1 k1 k2 k3 k4 k5 k6 k7 => by
    obtain ⟨dL, hm, hn1⟩ := List.any_eq_true.mp hrec
    have hn2 : dL.name = y := beq_iff_eq.mp hn1
    obtain ⟨a', o', fd', c', P', h1, h2, h3, h4, h5, h6⟩ := G.T.tab dL hm
    rw [hn2, k1] at h1
    cases h1
    have g1 := KX _ _ k2
    rw [g1] at h2
    cases h2
    rw [k3] at h3
    cases h3
    rw [k4] at h4
    cases h4
    have hh := PySem.W.CodeHd.of h5 h6
    obtain ⟨⟨oc', vc, e1, _, e3, e4⟩, hP⟩ := h6
    have g2 := KX _ _ k5
    rw [g2] at e1
    cases e1
    rw [k6] at e3
    cases e3
    rw [k7] at e4
    cases e4
    exact ⟨hh, hP⟩
  obtain ⟨fd, cs, sp, hT, nT, C, hb, hsp, hF⟩ := F w mg fa _ Y KX G.T.g hmg tt
  exact law_callTs KX G.T.g G.T.b G.T.builtins G.T.nolimit hg hT nT C G.T.bmain hobj hints (Nat.le_trans hlen hn2) hr hF hb (fun H hH hS => hsp H a ns hlen hbits hH hS) fun H e s' => hCX w H s₁ e s'
/-- the law's promise, asked at its entry -/
theorem spOf_lawT {K : PySem.W.Frag} {Tb : List (Addr × Str)} {cl : Str → Option Addr} {cm : Addr} {m : List D → FD} {H : Hp} {a : Addr} {ns : List Int} (hT : ∀ p ∈ Tb, H p.1 = some (.tbl #[])) (hS : SqL K H a (ns.map V.int)) (hl : ns.length ≤ 63) (h : m [.list (ns.map .int)] = .ret (.bool true)) :
    spOf (Be K Tb cl cm) (mD m) [.ref a] H (fun v _ => v = .bl true) fun _ _ _ => False := by
  obtain ⟨G0, hG, hS'⟩ : ∃ G0 : Hp, (∀ b o, G0 b = some o → b = a ∧ H a = some o ∧ (o = .lst (ns.map V.int) ∨ ∃ u, o = .frz u (.lst (ns.map V.int)))) ∧ SqL K G0 a (ns.map V.int) := by
    rcases hS with (r | ⟨o, r⟩) | r
    · refine ⟨fun b => if b = a then H a else none, fun b o' e => ?_, .inl (.inl ?_)⟩
      · dsimp only at e
        split at e
        · refine ⟨by assumption, e, .inl ?_⟩
          rw [r] at e; cases e; rfl
        · cases e
      · show (if a = a then H a else none) = _
        rw [if_pos rfl]; exact r
    · refine ⟨fun b => if b = a then H a else none, fun b o' e => ?_, .inl (.inr ⟨o, ?_⟩)⟩
      · dsimp only at e
        split at e
        · refine ⟨by assumption, e, .inr ⟨o, ?_⟩⟩
          rw [r] at e; cases e; rfl
        · cases e
      · show (if a = a then H a else none) = _
        rw [if_pos rfl]; exact r
    · exact ⟨fun _ => none, fun b o e => (nomatch e), .inr r⟩
  have hlen : (ns.map V.int).length ≤ sizeLine := by rw [List.length_map, line_eq]; omega
  refine ⟨G0, [.dat (.list (ns.map .int))], fun i l e => ?_, fun i l e => ?_, ?_, ?_⟩
  · match i, e with
    | 0, e => cases e
    | i + 1, e => simp at e
  · match i, e with
    | 0, e => cases e
    | i + 1, e => simp at e
  · have hc : ∀ (i : Nat) c, (argsR [C.dat (.list (ns.map .int))])[i]? = some (some c) → i = 0 ∧ c = .dat (.list (ns.map .int)) := fun i c e => by
      match i, e with
      | 0, e => cases e; exact ⟨rfl, rfl⟩
      | i + 1, e => simp [argsR] at e
    exact {
      sub := fun b o e => by obtain ⟨rfl, e, _⟩ := hG b o e; exact e
      nt := fun b ps e => by
        obtain ⟨rfl, e, z⟩ := hG b _ e
        rcases z with z | ⟨u, z⟩ <;> cases z
      sz := fun b o e => by
        obtain ⟨rfl, e, z⟩ := hG b o e
        rcases z with rfl | ⟨u, rfl⟩
        · exact hlen
        · exact hlen
      j := fun p hp => TabS.nil (hT p hp)
      keep := fun b o e _ _ => e
      there := fun b e => e
      gsub := fun b o e => e
      gnew := fun b o e => .inl e
      len := rfl
      dat := fun i d e => by
        obtain ⟨rfl, e⟩ := hc i _ e
        cases e
        exact ⟨.ref a, rfl, .lst hS' (DpAll.of_ints ns)⟩
      dct := fun i ks e => by obtain ⟨_, e⟩ := hc i _ e; cases e
      raw := fun i v e => by obtain ⟨_, e⟩ := hc i _ e; cases e
      rel := fun i k d e => by obtain ⟨_, e⟩ := hc i _ e; cases e
      dnq := fun i j ks ks' e _ => by obtain ⟨_, e⟩ := hc i _ e; cases e
      held := fun i l e => by
        rcases e with e | e
        · obtain ⟨_, e⟩ := hc i _ e; cases e
        · obtain ⟨_, e⟩ := hc i _ e; cases e
      ref := fun i l e => by obtain ⟨_, e⟩ := hc i _ e; cases e
      sep := fun i j l m _ e _ => by
        rcases e with e | e
        · obtain ⟨_, e⟩ := hc i _ e; cases e
        · obtain ⟨_, e⟩ := hc i _ e; cases e
      isref := fun i l e => by obtain ⟨_, e⟩ := hc i _ e; cases e }
  · have e : mD m [.dat (.list (ns.map .int))] = .ret (.bool true) [.dat (.list (ns.map .int))] := by
      unfold mD
      rw [show datsOf [C.dat (.list (ns.map .int))] = some [.list (ns.map .int)] from rfl]
      dsimp only
      rw [h]
    rw [e]
    intro v H' G' _ hv
    cases hv
    rfl
theorem cxN_none {P : Program} {w : World} {H : Hp} {s : Shared} {e : Value} {s' : Shared} (z : L2N.CX P w [] H s (fun _ _ _ => False) e s') : False := by
  obtain ⟨a, B, H', cls, d, h1, h2, h3, h4, h5, h6, h7, h8⟩ := z
  exact h8
end Rf
namespace Rf
open PySem PySem.Spec PyProof.Rows L2 LamX
theorem uniq_of {l : List (Addr × Str)} (h : (l.map (·.1)).Nodup) : ∀ p ∈ l, ∀ q ∈ l, p.1 = q.1 → p.2 = q.2 := by
  induction l with
  | nil => intro p hp; cases hp
  | cons a l ih =>
    rw [List.map_cons, List.nodup_cons] at h
    intro p hp q hq e
    rcases List.mem_cons.mp hp with h1 | h1
    · rcases List.mem_cons.mp hq with h2 | h2
      · rw [h1, h2]
      · exact absurd (List.mem_map.mpr ⟨q, h2, by rw [← e, h1]⟩) h.1
    · rcases List.mem_cons.mp hq with h2 | h2
      · exact absurd (List.mem_map.mpr ⟨p, h1, by rw [e, h2]⟩) h.1
      · exact ih h.2 p h1 q h2 e
theorem code_at {K : PySem.W.Frag} {x qual : Str} {st : Stmt} {f c : Addr} {oc kV dc pm ct : Value} {od an : Option Addr} {osl : Array (Option Value)} {fd : FuncData} (h : K.lookup f = some ⟨oc, od, .func (PySem.W.fnOf x qual (defArgs st) (defBody st) (defScope st) .none kV dc pm an (.ref c) ct), osl⟩) :
    ∀ cdv, CodeAt K x qual st f fd cdv → cdv = .ref c := fun cdv ⟨oc', od', kV', dc', pm', an', ct', osl', h1, h2⟩ => by
  subst h1
  rw [h] at h2
  have h2 := Option.some.inj h2
  have h2 := congrArg (fun o : Obj => match o.data with | .func fd => fd.code | _ => .none) h2
  exact h2.symm
end Rf

set_option maxRecDepth 100000
set_option maxHeartbeats 4000000
/-! # errors held as values: made, put into lists, asked for their class, their text, their limit -/
namespace Rf
open PySem PySem.Spec PyProof.Rows L2
/-- what the written part says of a class whose errors are values -/
structure ErV (K : PySem.W.Frag) (C : Addr) : Prop where
  is : IsErr K C
  gs : PySem.W.specialIn K (.builtin "object.__class__") "__get__" = some (some (.builtin "getset_descriptor.__get__"))
  tk : PySem.W.takesIn K (.builtin "object.__class__") = some true
  st : PySem.W.findIn K (.ref C) "__str__" = some (some (.builtin "BaseException.__str__"))
def erVB (K : PySem.W.Frag) (C : Addr) : Bool := isErrB K C && (PySem.W.specialIn K (.builtin "object.__class__") "__get__" == some (some (.builtin "getset_descriptor.__get__")) && (PySem.W.takesIn K (.builtin "object.__class__") == some true && PySem.W.findIn K (.ref C) "__str__" == some (some (.builtin "BaseException.__str__"))))
theorem erV_of {K : PySem.W.Frag} {C : Addr} (h : erVB K C = true) : ErV K C := by
  simp only [erVB, Bool.and_eq_true, beq_iff_eq] at h
  obtain ⟨h1, h2, h3, h4⟩ := h
  exact ⟨isErr_of h1, h2, h3, h4⟩
theorem ErV.isC {K : PySem.W.Frag} {C : Addr} (h : ErV K C) : (PySem.W.clsIn K C).isSome = true := by
  obtain ⟨cd, hc, _⟩ := PySem.W.any_some h.is.hd
  rw [hc]; rfl
theorem exS_own {e C t x : Addr} : ExS C e t ≠ .own x := fun z => by
  have z' : HO.ext _ = HO.own x := z
  cases z'
theorem exS_tbl {e C t : Addr} {ps : Array Value} : ExS C e t ≠ .tbl ps := fun z => by
  have z' : HO.ext _ = HO.tbl ps := z
  cases z'
theorem exS_ok {P : Program} {w : World} {H : Hp} {h : Heap} {C a t0 : Addr} (he : h.get? a = some ({ cls := .ref C, dict := none, data := .fields #[.ref t0, .none, .none, .none, .bool false, .none] } : Obj)) : ObjOk P w H h a (ExS C a t0) :=
  ⟨he, ⟨_, he⟩, fun _ _ z k => k _ z⟩
theorem exS_at {P : Program} {w : World} {H : Hp} {h : Heap} {C a t0 : Addr} (hok : HOk P w H h) (he : H a = some (ExS C a t0)) : h.get? a = some ({ cls := .ref C, dict := none, data := .fields #[.ref t0, .none, .none, .none, .bool false, .none] } : Obj) := by
  have x : ObjOk P w H h a (.ext fun h => h.get? a = some ({ cls := .ref C, dict := none, data := .fields #[.ref t0, .none, .none, .none, .bool false, .none] } : Obj)) := hok a _ he
  exact x.1
section
variable {X : Cx}
/-- X(e), e a text: a new error, a value -/
theorem pe_exS {C : Addr} {bmB : List Value} {b0 newId initId : String} {x : Str} {e : Expr} {ta : TE} {p pos : Pos} (F : ExcBaseFacts b0 newId initId bmB) (q : PySem.W.excIn X.K C bmB newId = true) (gC : X.mg x = some (.ref C)) (kC : PySem.W.keepIn X.K (.ref C) = true) (hg : Gl X x)
    (he : PE X e ta) (hs : starEach [e] X.env = (false, eval e X.env) :: starEach [] X.env := by rfl) (hdb : (x == ("__debug__" : Str)) = false := by decide) :
    PE X (.Call (.Name x p) [e] [] pos) (fun σ H Q => ta σ H fun v H1 => ∀ a t0, H1 a = none → H1 t0 = none → a ≠ t0 → Q (.ref a) (upd (upd H1 t0 (.tup [v])) a (ExS C a t0))) := by
  refine ⟨fun pins s σ H Q I h => ?_⟩
  refine wpAny_Call_Name_kw (ld_glob I hg gC ?_ hdb)
  refine PySem.W.callWith_K (h₀ := X.base) I.ok.mod.kin kC ?_ hs (by rfl)
  rw [hs]
  show wpAny _ _ (spliced ((false, eval e X.env) :: backTo pos (starEach [] X.env))) _ _ s
  refine Calls.spliced_cons (thn (he.run pins s σ H _ I h) fun u s1 ⟨v, H1, I1, r1, q1⟩ => ?_)
  refine Calls.spliced_nil ⟨I1.kIn, ?_⟩
  show wpAny _ _ (call (.ref C) [u]) _ _ _
  obtain ⟨bm, N, nm, qn, bs, hdct, sn, sub, ab, col, dd, k0, k1, k2, k3, k5, mN, hC, hN, hni, T⟩ := exc_obj I1.kIn q
  refine wpAny_call_exc_subT F T hC hN hni (fun h' a hm => ?_) (by show 1 ≤ sizeLine; rw [sizeLine_eq]; omega)
  have hn : H1 a = none := I1.hok.gone hm.new
  obtain ⟨t0, ht, htn, htt⟩ := hm.there
  have hnt : H1 t0 = none := I1.hok.gone htn
  have hat : a ≠ t0 := fun z => by
    rw [z] at ht
    rw [htt] at ht
    cases ht
  obtain ⟨G, g1, g2⟩ := restrict h' fun b => decide (b ≠ a)
  have gk : ∀ b, b ≠ a → G.get? b = h'.get? b := fun b hb => g1 b (decide_eq_true hb)
  have ga : G.get? a = none := g2 a (by simp)
  obtain ⟨hp, g, d, tt, os⟩ := s1
  have I2 := I1.laidN (h' := G) (a := t0) (o := .tup [v]) (t' := tt) (fun b o e => by
    rw [gk b (fun z => by rw [z] at e; rw [hm.new] at e; cases e)]
    exact hm.keeps b o e) htn hnt ⟨by show 1 ≤ sizeLine; rw [sizeLine_eq]; omega, [u], .cons r1 .nil, ⟨_, (gk t0 (Ne.symm hat)).trans htt, rfl, 0, rfl⟩⟩
  have I3 := I2.laidN (h' := h') (a := a) (o := ExS C a t0) (t' := tt) (fun b o e => by
    have e' : G.get? b = some o := e
    rw [gk b (fun z => by rw [z, ga] at e'; cases e')] at e'
    exact e') ga (by rw [upd_ne hat]; exact hn) (exS_ok ht)
  exact ⟨.ref a, _, I3, rfl, q1 a t0 hn hnt hat⟩
/-- C(e), C's own __init__ keeping sp: a new error, a value -/
theorem pe_exM {CX : CXT} {x : Str} {C fI : Addr} {k : Nat} {fd : FuncData} {ps : List Str} {sp : Sp} {e : Expr} {es : List Expr} {ta : TA} {p pos : Pos} (T : OexC X.K C) (iC : PySem.W.findIn X.K (.ref C) "__init__" = some (some (.ref fI))) (tI : PySem.W.typeIn X.K (.ref fI) = some (.type "function"))
    (F1 : FnOk X.prog X.w X.K X.mg X.base CX k fI fd ps sp) (hr : Room (k + 1) X.A) (hb : Binds X.K fd ps []) (hxz : Passes CX X (fun _ _ _ => False)) (hg : Gl X x) (hmz : X.mg x = some (.ref C)) (ha : PA X (e :: es) ta)
    (hdb : (x == ("__debug__" : Str)) = false := by decide) (he : starEach (e :: es) X.env = (false, eval e X.env) :: starEach es X.env := by rfl) (hpl : (backTo pos (starEach es X.env)).any (·.1) = false := by rfl) :
    PE X (.Call (.Name x p) (e :: es) [] pos) (fun σ H Q => ta σ H fun vs H1 => vs.length ≤ 1000 ∧ ∀ a, H1 a = none → sp (.ref a :: vs) (upd H1 a (exo a C none)) (fun v H2 => v = .non ∧ Q (.ref a) H2) (fun _ _ _ => False)) := by
  refine ⟨fun pins s σ H Q I h => ?_⟩
  obtain ⟨nm, q, N, bs, bm, sn, sub, ab, col, dd, k0, k1z, k2z, k3, k5, hC, hbm⟩ := T.cls
  refine wpAny_Call_Name_kw (ld_glob I hg hmz ?_ hdb)
  refine PySem.W.callWith_K (h₀ := X.base) I.ok.mod.kin T.kC (thn (ha.run pos pins s σ H _ I h) fun us s1z ⟨vs, H1z, I1z, r1z, hzz, q1z⟩ => ⟨I1z.kIn, ?_⟩) he hpl
  show wpAny _ _ (call (.ref C) us) _ _ _
  obtain ⟨hp, g, dr, tk, osz⟩ := s1z
  have hsz : hp.objs.size ≤ hp.objs.size + 1 := Nat.le_succ _
  have hnz : H1z (hp.objs.size + 1) = none := I1z.hok.fresh hsz
  have hqz := q1z (hp.objs.size + 1) hnz
  have kk : ∀ b o, hp.get? b = some o → ((hp.push (PySem.W.kdv_tup us)).push (PySem.HandSPX.excO C hp.objs.size)).get? b = some o := fun b o e => Heap.get?_push_of_some _ (Heap.get?_push_of_some _ e)
  have hget : ((hp.push (PySem.W.kdv_tup us)).push (PySem.HandSPX.excO C hp.objs.size)).get? (hp.objs.size + 1) = some (PySem.HandSPX.excO C hp.objs.size) := by heap_get
  have I2z : Inv X pins σ (upd H1z (hp.objs.size + 1) (exo (hp.objs.size + 1) C none)) ⟨(hp.push (PySem.W.kdv_tup us)).push (PySem.HandSPX.excO C hp.objs.size), g, dr, tk, osz⟩ :=
    I1z.laid (t' := tk) (a := hp.objs.size + 1) (o := exo (hp.objs.size + 1) C none) (h' := (hp.push (PySem.W.kdv_tup us)).push (PySem.HandSPX.excO C hp.objs.size)) kk hsz (exo_ok hget)
  have r2 : Vals (V.ref (hp.objs.size + 1) :: vs) (Value.ref (hp.objs.size + 1) :: us) := .cons rfl r1z
  have hlz : (Value.ref (hp.objs.size + 1) :: us ++ []).length = ps.length := by
    have e := r2.length
    rw [F1.len _ _ _ _ hqz] at e
    rw [List.append_nil]
    exact e.symm
  have hus : us.length ≤ sizeLine := by
    rw [← Paired.length r1z, sizeLine_eq]
    omega
  refine wpAny_call (PySem.HandSPX.call_own F.excBase_ValueError (fun Y => PySem.HandSPX.refsVE_contains Y bm hbm) (I1z.kIn _ _ hC) (PySem.W.looks_findIn I1z.kIn iC) (fun self => PySem.W.bind_fn I1z.kIn self tI) hus
    (codeAny_mono (F1.run _ X.stack _ _ ⟨Value.ref (hp.objs.size + 1) :: us, []⟩ (Value.ref (hp.objs.size + 1) :: us) _ _ (fun _ _ _ => False) (hr.make C us []) (I2z.env0.make C us []) (by have z := hb _ (Value.ref (hp.objs.size + 1) :: us) I2z.kIn hlz; rw [List.append_nil] at z; exact z) r2 hqz) fun r s' hq' => ?_))
  cases r with
  | error er => exact hxz pins σ _ _ er s' I2z hq'
  | ok fl =>
    cases fl with
    | ret u =>
      obtain ⟨v, H2z, os2, bare2, un2, hok2, rvz, ev, q2⟩ := hq'
      subst ev
      exact ⟨rvz, .ref (hp.objs.size + 1), H2z, I2z.call' os2 un2 hok2 bare2 (fun b z => absurd z (by simp)), rfl, q2⟩
    | next => exact False.elim hq'
    | brk => exact False.elim hq'
    | cont => exact False.elim hq'
/-- an error that is tracked, of the class D -/
def TrE (H : Hp) (a D : Addr) : Prop := (∃ t0, H a = some (ExS D a t0)) ∨ ∃ dx fs, H a = some (exo a D (some dx)) ∧ H dx = some (exd dx fs)
theorem trE_inst {pins : List (Addr × Obj)} {σ : St} {H : Hp} {s : Shared} {a D : Addr} (I : Inv X pins σ H s) (h : TrE H a D) : ∃ ox od, PySem.W.InstAt s.heap a ox D od := by
  rcases h with ⟨t0, h⟩ | ⟨dx, fs, h1, h2⟩
  · exact ⟨_, none, exS_at I.hok h, rfl, rfl, trivial⟩
  · obtain ⟨t1, he⟩ := exo_at I.hok h1
    obtain ⟨mA, ⟨od, es, ep, ho, hr⟩, _⟩ := exd_at I.hok h2
    exact ⟨_, some od, he, rfl, rfl, ho⟩
theorem call_isV : CallR X (.builtin "isinstance") (fun xs H Q => ∃ (a D : Addr) (c : V) (cv : Value) (b : Bool), xs = [.ref a, c] ∧ ErV X.K D ∧ TrE H a D ∧ (∀ u, RelV c u → u = cv) ∧ PySem.W.kitOne X.K (.ref D) cv = some b ∧ Q (.bl b) H) := by
  intro pins s σ H xs us Q I r h
  obtain ⟨a, D, c, cv, b, rfl, C, tr, hcv, e, q⟩ := h
  cases r with
  | cons rx rr =>
    cases rr with
    | cons rt rr =>
      cases rr
      cases rx
      have ec := hcv _ rt
      subst ec
      obtain ⟨ox, od, J⟩ := trE_inst I tr
      exact PySem.W.kia_one (PySem.W.kitx_exc C.isC C.is.ga C.is.gg C.is.sb C.is.cl C.gs C.tk C.is.mo) I.kIn J e (fun z => nomatch z) fun tk => ⟨.bl b, H, I.kept (t' := tk) fun _ _ z => z, rfl, q⟩
theorem call_strV (hu : X.A.units + 2 < cLine) : CallR X (.type "str") (fun xs H Q => ∃ (a D t0 : Addr) (m : Str), xs = [.ref a] ∧ ErV X.K D ∧ H a = some (ExS D a t0) ∧ H t0 = some (.tup [.str m]) ∧ Q (.str m) H) := by
  intro pins s σ H xs us Q I r h
  obtain ⟨a, D, t0, m, rfl, C, h1, h2, q⟩ := h
  obtain ⟨u, rfl, rx⟩ := vals1 r
  obtain rfl : u = Value.ref a := rx
  have he := exS_at I.hok h1
  obtain ⟨_, its, rv, o, ho, hc, n, hd⟩ := (show ObjOk X.prog X.w H s.heap t0 (.tup [.str m]) from I.hok t0 _ h2)
  obtain ⟨w, rfl, tk, rfl⟩ := vals1 rv
  exact PySem.P.str_of_C_one hu ⟨I.kIn, _, _, he, rfl, rfl, rfl⟩ ⟨o, n, ho, hc, hd⟩ C.st C.is.sb ⟨.str m, H, I, ⟨tk, rfl⟩, q⟩
/-- e.n, e an error with a dict -/
theorem pe_xfV {e : Expr} {te : TE} {pos : Pos} {n : Str} (he : PE X e te) (hb : attributeBase e n X.env (eval e X.env) = eval e X.env := by rfl) :
    PE X (.Attribute e n pos) (fun σ H Q => te σ H fun x H1 => ∃ (a C dx : Addr) (fs : List (Str × V)) (v : V), x = .ref a ∧ XfC X.K C ∧ PySem.W.findIn X.K (.ref C) n = some none ∧ H1 a = some (exo a C (some dx)) ∧ H1 dx = some (exd dx fs) ∧ fs.lookup n = some v ∧ Q v H1) := by
  refine ⟨fun pins s σ H Q I h => ?_⟩
  refine attr_of hb (thn (he.run pins s σ H _ I h) fun u s1 hh => ?_)
  obtain ⟨x, H1, I1, rx, a, C, dx, fs, v, ex, T, hno, ea, ed, l, q⟩ := hh
  subst ex
  obtain rfl : u = Value.ref a := rx
  obtain ⟨t1, ho⟩ := exo_at I1.hok ea
  obtain ⟨mA, hns, hr⟩ := exd_at I1.hok ed
  obtain ⟨od, hod, hl⟩ := lookIn_ns hns
  obtain ⟨u, hu, ru⟩ := RelO.some_of (v := v) (o := mA n) (by rw [← l]; exact hr n)
  have J : PySem.W.InstAt s1.heap a _ C (some od) := ⟨ho, rfl, rfl, hod⟩
  exact HandSPX.exc_get I1.kIn J T.ga T.gg T.exC (PySem.W.findObj_own T.hdC hno rfl (by rw [hl, hu])) (handed_of ru) ⟨v, H1, I1.tok _, ru, q⟩
end
end Rf

set_option maxRecDepth 100000
set_option maxHeartbeats 4000000
/-! # errors held as values: the readings by data -/
namespace Rf
open PySem PySem.Spec PyProof.Rows L2
/-- an expression that gives a value of a kind -/
def tVv (B : Bs) (Wx : WX) (k : Nat) (f : Rho → O D) : TE := fun σ H Q => ∃ S ρ G, EnvOk B S ρ σ H G ∧ Post B S Wx σ G (f ρ) (fun d _ H' G' => ∀ v, B.RV k d G' v → Q v H')
/-- rows of such -/
def LsV (B : Bs) (k : Nat) (G : Hp) (ds : List D) (vs : List V) : Prop := vs.length = ds.length ∧ ∀ (i : Nat) d u, ds[i]? = some d → vs[i]? = some u → B.RV k d G u
def tVs (B : Bs) (Wx : WX) (k : Nat) (f : Rho → O (List D)) : TA := fun σ H Q => ∃ S ρ G, EnvOk B S ρ σ H G ∧ Post B S Wx σ G (f ρ) (fun ds _ H' G' => ∀ vs, LsV B k G' ds vs → Q vs H')
def clsD : D → Str
  | .tuple [.str nm, .str _] => nm
  | .int _ => "TooMany"
  | _ => ""
section
variable {X : Cx} {B : Bs} {Wx : WX} {k : Nat}
theorem LsV.cons {G G' : Hp} {d : D} {ds : List D} {v : V} {vs : List V} (le : Le G G') (h : B.RV k d G v) (r : LsV B k G' ds vs) : LsV B k G' (d :: ds) (v :: vs) := by
  refine ⟨by rw [List.length_cons, List.length_cons, r.1], fun i d' u h1 h2 => ?_⟩
  cases i with
  | zero => cases h1; cases h2; exact B.rs le h
  | succ i => exact r.2 i d' u (by simpa using h1) (by simpa using h2)
theorem gv_nil : PA X [] (tVs B Wx k sNil) := pa_nil.imp' fun σ H Q ⟨S, ρ, G, E, P⟩ => P H G E Le.refl _ ⟨rfl, fun i d u h => by simp at h⟩
theorem gv_cons {e : Expr} {es : List Expr} {f : Rho → O D} {g : Rho → O (List D)} (he : PE X e (tVv B Wx k f)) (hr : PA X es (tVs B Wx k g)) (hs : starEach (e :: es) X.env = (false, eval e X.env) :: starEach es X.env := by rfl) : PA X (e :: es) (tVs B Wx k (sCons f g)) :=
  (pa_cons he hr hs).imp' fun σ H Q ⟨S, ρ, G, E, P⟩ => by
    refine ⟨S, ρ, G, E, P.bind.imp fun d ρ1 H1 G1 E1 le1 q v hv => ?_⟩
    exact ⟨S, ρ1, G1, E1, q.bind.imp fun ds ρ2 H2 G2 E2 le2 q2 vs hvs => Post.at E2 q2 _ (hvs.cons le2 hv)⟩
/-- a slot's value -/
def sVvar (k i : Nat) : Rho → O D := fun ρ => match ρ[i]? with
  | some (some (.rel k' d)) => if k' = k then .ok d ρ else .no
  | _ => .no
theorem gv_var (i : Nat) {x : Str} {pos : Pos} (hN : X.N[i]? = some x := by rfl) (hv : Vis X.env.scope x := by first | exact .inl rfl | exact .inr (.inl rfl) | exact .inr (.inr rfl)) (hd : (x == ("__debug__" : Str)) = false := by decide) (hcd : (x == ("__classdict__" : Str)) = false := by decide) : PE X (.Name x pos) (tVv B Wx k (sVvar k i)) :=
  (pe_var hN hv hd hcd).imp' fun σ H Q ⟨S, ρ, G, E, P⟩ => by
    unfold sVvar at P
    split at P
    · rename_i k' d h
      split at P
      · rename_i hk
        subst hk
        obtain ⟨v, h1, h2⟩ := E.rel i _ d h
        exact ⟨v, h1, P H G E Le.refl v h2⟩
      · exact False.elim P
    · exact False.elim P
/-- x = such a value -/
def putV (i k : Nat) (d : D) (ρ : Rho) : Option Rho := match ρ[i]? with
  | none => none
  | some (some (.ref _)) => none
  | some _ => some (ρ.set i (some (.rel k d)))
def sAsgV (i k : Nat) (fa : Rho → O D) : Rho → OS := fun ρ => (fa ρ).run fun d ρ1 => match putV i k d ρ1 with
  | some ρ2 => .nx ρ2
  | none => .no
theorem q_asgV (i : Nat) {x : Str} {e : Expr} {px pos : Pos} {fa : Rho → O D} (hN : X.N.Nodup) (he : PE X e (tVv B Wx k fa)) (hi : X.N[i]? = some x := by rfl) (hx : Loc X.env.scope x := by first | exact .inl rfl | exact .inr rfl) (hf : X.fn x = true ∨ X.env.scope.names.lookup x = some .local := by first | exact .inl rfl | exact .inr rfl)
    (hs : swapsWith e (some (.Name x px)) pos.line X.env = pure false := by rfl) : PS X (.Assign [.Name x px] e pos) (tSt B Wx (sAsgV i k fa)) :=
  (ps_set hN hi hx he hs hf).imp' fun Dn σ H ⟨S, ρ, G, E, P⟩ => by
    refine ⟨S, ρ, G, E, P.run.imp fun l ρ1 H1 G1 E1 le1 q v hv => ?_⟩
    unfold putV at q
    split at q
    · rename_i ρ2 h2
      split at h2
      · cases h2
      · cases h2
      · rename_i c n h3
        cases h2
        exact q _ H1 G1 (E1.putRel hv fun l z => by rw [h3] at z; exact n l (Option.some.inj z)) Le.refl
    · exact False.elim q
def sRetV (k : Nat) (fa : Rho → O D) : Rho → OS := fun ρ => (fa ρ).run fun d ρ1 => .retV k d ρ1
theorem q_retV {e : Expr} {pos : Pos} {fa : Rho → O D} (he : PE X e (tVv B Wx k fa)) : PS X (.Return (some e) pos) (tSt B Wx (sRetV k fa)) :=
  (ps_ret he).imp' fun D σ H ⟨S, ρ, G, E, P⟩ => ⟨S, ρ, G, E, P.run.imp fun d ρ1 H1 G1 E1 le1 q v hv => q σ H1 G1 E1 Le.refl v hv⟩
/-! ### errors -/
variable {cl : Str → Option Addr} {cm : Addr}
theorem g_exS {x m : Str} {j : Nat} {p p2 pos : Pos} {C : Addr} (hK : X.K = B.K) (hV : B.RV = relE cl cm) (hcl : cl x = some C) (hm : X.mg x = some (.ref C)) (q : PySem.W.excIn B.K C veBases "ValueError.__new__" = true) (kC : PySem.W.keepIn B.K (.ref C) = true)
    (hg : Gl X x := by rfl) (hs : starEach [.Constant (.str m) j p2] X.env = (false, eval (.Constant (.str m) j p2) X.env) :: starEach [] X.env := by rfl) (hdb : (x == ("__debug__" : Str)) = false := by decide) :
    PE X (.Call (.Name x p) [.Constant (.str m) j p2] [] pos) (tVv B Wx 0 (sCon (.tuple [.str x, .str m]))) := by
  rw [← hK] at q kC
  refine (pe_exS PySem.F.excBase_ValueError q hm kC hg pe_str hs hdb).imp' fun σ H Q ⟨S, ρ, G, E, P⟩ => fun a t0 ha ht hat => ?_
  have E1 := E.new (p := t0) (o := .tup [.str m]) ht (fun _ => HO.noConfusion) (show 1 ≤ sizeLine by rw [line_eq]; omega)
  have E2 := E1.new (p := a) (o := ExS C a t0) (by rw [upd_ne hat]; exact ha) (fun _ => exS_tbl) trivial
  refine P _ _ E2 ((Le.upd (E.gnone ht)).trans (Le.upd (by rw [upd_ne hat]; exact E.gnone ha))) _ ?_
  rw [hV]
  refine ⟨a, C, t0, rfl, hcl, upd_same, ?_⟩
  rw [upd_ne (Ne.symm hat), upd_same]
def sLimV (fa : Rho → O D) : Rho → O D := fun ρ => (fa ρ).bind fun d ρ1 => match d with
  | .int i => if i.natAbs < 2 ^ 64 then .ok (.int i) ρ1 else .no
  | _ => .no
theorem g_exM {x : Str} {e : Expr} {p pos : Pos} {lv : Nat} {fa : Rho → O D} (hK : X.K = B.K) (hV : B.RV = relE cl cm) (F : LimE B X.prog X.w X.mg X.base x lv) (hm : X.mg x = some (.ref cm)) (hr : Room (lv + 1) X.A) (he : PE X e (tEv B Wx fa)) (hg : Gl X x := by rfl) (hdb : (x == ("__debug__" : Str)) = false := by decide)
    (hs : starEach [e] X.env = (false, eval e X.env) :: starEach [] X.env := by rfl) (hpl : (backTo pos (starEach [] X.env)).any (·.1) = false := by rfl) :
    PE X (.Call (.Name x p) [e] [] pos) (tVv B Wx 0 (sLimV fa)) := by
  obtain ⟨C, fI, fd, h1, h2, h3, h4, h5, h6, h7, h8⟩ := F.ex
  rw [hm] at h1
  cases h1
  have h2' := h2
  have h3' := h3
  rw [← hK] at h2 h4 h5 h6 h7
  refine (pe_exM h2 h4 h5 h6 hr h7 pass0 hg hm (pa_cons he pa_nil hs) hdb hs hpl).imp' fun σ H Q ⟨S, ρ, G, E, P⟩ => ?_
  refine ⟨S, ρ, G, E, P.bind.imp fun d ρ1 H1 G1 E1 le1 q v hv => ?_⟩
  split at q
  · rename_i i
    split at q
    · rename_i hi
      cases dint hv
      refine ⟨by simp, fun a ha => ⟨a, cm, i, rfl, h2, by rw [hK]; exact h3, hi, upd_same, fun dx hdx ndx => ?_⟩⟩
      refine ⟨rfl, ?_⟩
      have hdx1 : H1 dx = none := by rw [upd_ne ndx] at hdx; exact hdx
      have eH : upd (upd (upd H1 a (exo a cm none)) dx (exd dx [("limit", .int i)])) a (exo a cm (some dx)) = upd (upd H1 dx (exd dx [("limit", .int i)])) a (exo a cm (some dx)) := by
        funext b
        by_cases hb : b = a
        · rw [hb, upd_same, upd_same]
        · rw [upd_ne hb, upd_ne hb]
          by_cases hb2 : b = dx
          · rw [hb2, upd_same, upd_same]
          · rw [upd_ne hb2, upd_ne hb2, upd_ne hb]
      rw [eH]
      have nt : ∀ {fs : List (Str × V)} {e : Addr} {ps : Array Value}, exd e fs ≠ .tbl ps := fun z => by
        have z' : HO.ext _ = HO.tbl _ := z
        cases z'
      have F1 := E1.new (p := dx) (o := exd dx [("limit", .int i)]) hdx1 (fun _ => nt) trivial
      have F2 := F1.new (p := a) (o := exo a cm (some dx)) (by rw [upd_ne (Ne.symm ndx)]; exact ha) (fun _ => exo_tbl) trivial
      refine q _ _ F2 ((Le.upd (E1.gnone hdx1)).trans (Le.upd (by rw [upd_ne (Ne.symm ndx)]; exact E1.gnone ha))) _ ?_
      rw [hV]
      refine ⟨a, dx, rfl, upd_same, ?_⟩
      rw [upd_ne ndx, upd_same]
    · exact False.elim q
  · exact False.elim q
/-- [e, ..] -/
def sLstV (f : Rho → O (List D)) : Rho → O D := fun ρ => (f ρ).bind fun l ρ1 => if l.length ≤ 1000 then .ok (.list l) ρ1 else .no
theorem g_lstV {es : List Expr} {pos : Pos} {f : Rho → O (List D)} (hV : B.RV = relE cl cm) (h : PA X es (tVs B Wx 0 f)) : PE X (.List es pos) (tVv B Wx 1 (sLstV f)) :=
  (pe_lst h).imp' fun σ H Q ⟨S, ρ, G, E, P⟩ => by
    refine ⟨S, ρ, G, E, P.bind.imp fun l ρ1 H1 G1 E1 le1 q vs hvs => ?_⟩
    split at q
    · rename_i hl
      refine ⟨by rw [hvs.1]; exact le_line hl, fun p hp => ?_⟩
      have E2 := E1.new (p := p) (o := .lst vs) hp (fun _ => HO.noConfusion) (show vs.length ≤ sizeLine by rw [hvs.1]; exact le_line hl)
      refine q _ _ E2 (Le.upd (E1.gnone hp)) _ ?_
      rw [hV]
      refine ⟨p, vs, rfl, upd_same, hvs.1, fun i d u h1 h2 => ?_⟩
      have z := hvs.2 i d u h1 h2
      rw [hV] at z
      exact excV_up (Le.upd (E1.gnone hp)) z
    · exact False.elim q
/-- xs + ys -/
def dCatV (x y : D) : Option D := match x, y with
  | .list a, .list b => if a.length + b.length ≤ 1000 then some (.list (a ++ b)) else none
  | _, _ => none
def sCatV (fa fb : Rho → O D) : Rho → O D := s2 dCatV fa fb
theorem g_catV {a b : Expr} {pos : Pos} {fa fb : Rho → O D} (hK : X.K = B.K) (hV : B.RV = relE cl cm) (ha : PE X a (tVv B Wx 1 fa)) (hb : PE X b (tVv B Wx 1 fb)) : PE X (.BinOp a .Add b pos) (tVv B Wx 1 (sCatV fa fb)) :=
  (pe_op op_catL ha hb).imp' fun σ H Q ⟨S, ρ, G, E, P⟩ => by
    refine ⟨S, ρ, G, E, P.bind.imp fun x ρ1 H1 G1 E1 le1 q v hv => ?_⟩
    refine ⟨S, ρ1, G1, E1, q.bind.imp fun y ρ2 H2 G2 E2 le2 q2 w hw => ?_⟩
    unfold dCatV at q2
    split at q2
    · rename_i l1 l2
      split at q2
      · rename_i hz
        rw [hV] at hv hw
        obtain ⟨p1, us, rfl, a1, a2, a3⟩ := hv
        obtain ⟨p2, ws, rfl, b1, b2, b3⟩ := hw
        refine ⟨p1, p2, us, ws, rfl, rfl, .inl (.inl (E2.sub _ _ (le2 _ _ a1))), .inl (.inl (E2.sub _ _ b1)), by rw [a2, b2]; exact le_line hz, fun p hp => ?_⟩
        have E3 := E2.new (p := p) (o := .lst (us ++ ws)) hp (fun _ => HO.noConfusion) (show (us ++ ws).length ≤ sizeLine by rw [List.length_append, a2, b2]; exact le_line hz)
        refine q2 _ _ E3 (Le.upd (E2.gnone hp)) _ ?_
        rw [hV]
        refine ⟨p, us ++ ws, rfl, upd_same, by rw [List.length_append, List.length_append, a2, b2], fun i d u h1 h2 => ?_⟩
        by_cases hi : i < l1.length
        · rw [List.getElem?_append_left hi] at h1
          rw [List.getElem?_append_left (by rw [a2]; exact hi)] at h2
          exact excV_up (Le.trans le2 (Le.upd (E2.gnone hp))) (a3 i d u h1 h2)
        · have hi : l1.length ≤ i := by omega
          rw [List.getElem?_append_right hi] at h1
          rw [List.getElem?_append_right (by rw [a2]; exact hi), a2] at h2
          exact excV_up (Le.upd (E2.gnone hp)) (b3 _ d u h1 h2)
      · exact False.elim q2
    · exact False.elim q2
/-- xs[i] -/
def dItV (x y : D) : Option D := match x, y with
  | .list l, .int i => atI l i
  | _, _ => none
theorem g_itV {a b : Expr} {pos : Pos} {fa fb : Rho → O D} (hK : X.K = B.K) (hV : B.RV = relE cl cm) (ha : PE X a (tVv B Wx 1 fa)) (hb : PE X b (tEv B Wx fb)) (hs : PlainIx b := by exact fun _ _ => rfl) : PE X (.Subscript a b pos) (tVv B Wx 0 (s2 dItV fa fb)) :=
  (pe_ix ix_list ha hb hs).imp' fun σ H Q ⟨S, ρ, G, E, P⟩ => by
    refine ⟨S, ρ, G, E, P.bind.imp fun x ρ1 H1 G1 E1 le1 q v hv => ?_⟩
    refine ⟨S, ρ1, G1, E1, q.bind.imp fun y ρ2 H2 G2 E2 le2 q2 w hw => ?_⟩
    unfold dItV at q2
    split at q2
    · rename_i l i
      cases e : atI l i with
      | none => rw [e] at q2; exact False.elim q2
      | some d =>
        rw [e] at q2
        rw [hV] at hv
        obtain ⟨p1, us, rfl, a1, a2, a3⟩ := hv
        unfold atI at e
        cases en : ixN l.length i with
        | none => rw [en] at e; cases e
        | some n =>
          rw [en] at e
          have e : l[n]? = some d := e
          have hn : n < l.length := (List.getElem?_eq_some_iff.mp e).1
          have hu : us[n]? = some (us[n]'(by rw [a2]; exact hn)) := List.getElem?_eq_getElem _
          refine ⟨p1, us, i, us[n]'(by rw [a2]; exact hn), rfl, dint hw, .inl (.inl (E2.sub _ _ (le2 _ _ a1))), ?_, q2 H2 G2 E2 Le.refl _ ?_⟩
          · show (ixN us.length i).bind (fun j => us[j]?) = _
            have en' : ixN us.length i = some n := by rw [a2]; exact en
            rw [en']; exact hu
          · rw [hV]; exact excV_up le2 (a3 n d _ e hu)
    · exact False.elim q2
def sLenV (fa : Rho → O D) : Rho → O D := fun ρ => (fa ρ).bind fun d ρ1 => match d with
  | .list l => .ok (.int l.length) ρ1
  | _ => .no
theorem g_lenV {e : Expr} {p pos : Pos} {fa : Rho → O D} (hK : X.K = B.K) (hV : B.RV = relE cl cm) (hm : X.mg "len" = none) (he : PE X e (tVv B Wx 1 fa)) (hg : Gl X "len" := by rfl) (hs : starEach [e] X.env = (false, eval e X.env) :: starEach [] X.env := by rfl) (hpl : (backTo pos (starEach [] X.env)).any (·.1) = false := by rfl) :
    PE X (.Call (.Name "len" p) [e] [] pos) (tEv B Wx (sLenV fa)) :=
  (pe_callB call_len hg hm (by decide +kernel) (pa_cons he pa_nil hs) (by decide) (by decide) hs hpl).imp' fun σ H Q ⟨S, ρ, G, E, P⟩ => by
    refine ⟨S, ρ, G, E, P.bind.imp fun x ρ1 H1 G1 E1 le1 q v hv => ?_⟩
    split at q
    · rename_i l
      rw [hV] at hv
      obtain ⟨p1, us, rfl, a1, a2, a3⟩ := hv
      refine ⟨_, us.length, rfl, .inl ⟨us, .inl (.inl (E1.sub _ _ a1)), rfl⟩, ?_⟩
      rw [a2]
      exact q H1 G1 E1 Le.refl _ (.int _)
    · exact False.elim q
/-- all that is asked of the classes -/
structure ErVs (K : PySem.W.Frag) (cl : Str → Option Addr) (cm : Addr) : Prop where
  own : ∀ nm C, cl nm = some C → ErV K C
  lim : ErV K cm
  xf : XfC K cm
  no : PySem.W.findIn K (.ref cm) "limit" = some none
/-- isinstance(e, c): bf tells by the class -/
def sIsV (bf : Str → Bool) (fe : Rho → O D) : Rho → O D := fun ρ => (fe ρ).bind fun d ρ1 => .ok (.bool (bf (clsD d))) ρ1
structure KitB (K : PySem.W.Frag) (cl : Str → Option Addr) (cm : Addr) (cv : Value) (bf : Str → Bool) : Prop where
  own : ∀ nm C, cl nm = some C → PySem.W.kitOne K (.ref C) cv = some (bf nm)
  lim : PySem.W.kitOne K (.ref cm) cv = some (bf "TooMany")
theorem isV_at {V0 : ErVs B.K cl cm} {cv : Value} {c : V} {bf : Str → Bool} {d : D} {v : V} {H : Hp} {Q : VK} (kb : KitB B.K cl cm cv bf) (hc : ∀ u, RelV c u → u = cv) (h : excV cl cm d H v) (q : Q (.bl (bf (clsD d))) H) :
    ∃ (a D : Addr) (c' : V) (cv : Value) (b : Bool), [v, c] = [.ref a, c'] ∧ ErV B.K D ∧ TrE H a D ∧ (∀ u, RelV c' u → u = cv) ∧ PySem.W.kitOne B.K (.ref D) cv = some b ∧ Q (.bl b) H := by
  unfold excV at h
  split at h
  · rename_i nm m
    obtain ⟨a, C, t0, rfl, h2, h3, h4⟩ := h
    exact ⟨a, C, c, cv, _, rfl, V0.own nm C h2, .inl ⟨t0, h3⟩, hc, kb.own nm C h2, q⟩
  · rename_i i
    obtain ⟨a, dx, rfl, h2, h3⟩ := h
    exact ⟨a, cm, c, cv, _, rfl, V0.lim, .inr ⟨dx, _, h2, h3⟩, hc, kb.lim, q⟩
  · exact h.elim
theorem g_isV {e : Expr} {c : Str} {C' : Addr} {bf : Str → Bool} {p1 p3 pos : Pos} {fe : Rho → O D} (hK : X.K = B.K) (hV : B.RV = relE cl cm) (V0 : ErVs B.K cl cm) (hm : X.mg "isinstance" = none) (hc : X.mg c = some (.ref C')) (kb : KitB B.K cl cm (.ref C') bf) (he : PE X e (tVv B Wx 0 fe))
    (hg : Gl X "isinstance" := by rfl) (hgc : Gl X c := by rfl) (hdc : (c == ("__debug__" : Str)) = false := by decide)
    (hs : starEach [e, .Name c p3] X.env = (false, eval e X.env) :: starEach [.Name c p3] X.env := by rfl) (hs2 : starEach [.Name c p3] X.env = (false, eval (.Name c p3) X.env) :: starEach [] X.env := by rfl) (hpl : (backTo pos (starEach [.Name c p3] X.env)).any (·.1) = false := by rfl) :
    PE X (.Call (.Name "isinstance" p1) [e, .Name c p3] [] pos) (tEv B Wx (sIsV bf fe)) :=
  (pe_callB call_isV hg hm (by decide +kernel) (pa_cons he (pa_cons (pe_glob (v := V.ref C') hgc hc rfl hdc) pa_nil hs2) hs) (by decide) (by decide) hs hpl).imp' fun σ H Q ⟨S, ρ, G, E, P⟩ => by
    refine ⟨S, ρ, G, E, P.bind.imp fun x ρ1 H1 G1 E1 le1 q v hv => ?_⟩
    rw [hV] at hv
    rw [hK]
    exact isV_at (V0 := V0) kb (fun u hu => hu) (excV_up E1.sub hv) (q H1 G1 E1 Le.refl _ (.bl _))
theorem g_isVt {e : Expr} {c : Str} {T : String} {bf : Str → Bool} {p1 p3 pos : Pos} {fe : Rho → O D} (hK : X.K = B.K) (hV : B.RV = relE cl cm) (V0 : ErVs B.K cl cm) (hm : X.mg "isinstance" = none) (hc : X.mg c = none) (kb : KitB B.K cl cm (.type T) bf) (he : PE X e (tVv B Wx 0 fe)) (hbt : bootBuiltins c = some (.type T) := by decide +kernel)
    (hg : Gl X "isinstance" := by rfl) (hgc : Gl X c := by rfl) (hdc : (c == ("__debug__" : Str)) = false := by decide) (hnc : c ≠ "__name__" := by decide)
    (hs : starEach [e, .Name c p3] X.env = (false, eval e X.env) :: starEach [.Name c p3] X.env := by rfl) (hs2 : starEach [.Name c p3] X.env = (false, eval (.Name c p3) X.env) :: starEach [] X.env := by rfl) (hpl : (backTo pos (starEach [.Name c p3] X.env)).any (·.1) = false := by rfl) :
    PE X (.Call (.Name "isinstance" p1) [e, .Name c p3] [] pos) (tEv B Wx (sIsV bf fe)) :=
  (pe_callB call_isV hg hm (by decide +kernel) (pa_cons he (pa_cons (pe_bltn (v := V.ty T) hgc hc hbt rfl hnc hdc) pa_nil hs2) hs) (by decide) (by decide) hs hpl).imp' fun σ H Q ⟨S, ρ, G, E, P⟩ => by
    refine ⟨S, ρ, G, E, P.bind.imp fun x ρ1 H1 G1 E1 le1 q v hv => ?_⟩
    rw [hV] at hv
    rw [hK]
    exact isV_at (V0 := V0) kb (fun u hu => hu) (excV_up E1.sub hv) (q H1 G1 E1 Le.refl _ (.bl _))
def sStrV (fe : Rho → O D) : Rho → O D := fun ρ => (fe ρ).bind fun d ρ1 => match d with
  | .tuple [.str _, .str m] => .ok (.str m) ρ1
  | _ => .no
theorem g_strV {e : Expr} {p1 pos : Pos} {fe : Rho → O D} (hK : X.K = B.K) (hV : B.RV = relE cl cm) (V0 : ErVs B.K cl cm) (hu : X.A.units + 2 < cLine) (hm : X.mg "str" = none) (he : PE X e (tVv B Wx 0 fe)) (hg : Gl X "str" := by rfl)
    (hs : starEach [e] X.env = (false, eval e X.env) :: starEach [] X.env := by rfl) (hpl : (backTo pos (starEach [] X.env)).any (·.1) = false := by rfl) :
    PE X (.Call (.Name "str" p1) [e] [] pos) (tEv B Wx (sStrV fe)) :=
  (pe_callTy (call_strV hu) hg hm (by decide +kernel) (pa_cons he pa_nil hs) (by decide) (by decide) hs hpl).imp' fun σ H Q ⟨S, ρ, G, E, P⟩ => by
    refine ⟨S, ρ, G, E, P.bind.imp fun x ρ1 H1 G1 E1 le1 q v hv => ?_⟩
    split at q
    · rw [hV] at hv
      obtain ⟨a, C, t0, rfl, h2, h3, h4⟩ := hv
      rw [hK]
      exact ⟨a, C, t0, _, rfl, V0.own _ C h2, E1.sub _ _ h3, E1.sub _ _ h4, q H1 G1 E1 Le.refl _ (.str _)⟩
    · exact False.elim q
def sLimD (fe : Rho → O D) : Rho → O D := fun ρ => (fe ρ).bind fun d ρ1 => match d with
  | .int i => .ok (.int i) ρ1
  | _ => .no
theorem g_limD {e : Expr} {pos : Pos} {fe : Rho → O D} (hK : X.K = B.K) (hV : B.RV = relE cl cm) (V0 : ErVs B.K cl cm) (he : PE X e (tVv B Wx 0 fe)) (hb : attributeBase e "limit" X.env (eval e X.env) = eval e X.env := by rfl) : PE X (.Attribute e "limit" pos) (tEv B Wx (sLimD fe)) :=
  (pe_xfV he hb).imp' fun σ H Q ⟨S, ρ, G, E, P⟩ => by
    refine ⟨S, ρ, G, E, P.bind.imp fun x ρ1 H1 G1 E1 le1 q v hv => ?_⟩
    split at q
    · rw [hV] at hv
      obtain ⟨a, dx, rfl, h2, h3⟩ := hv
      rw [hK]
      exact ⟨a, cm, dx, _, _, rfl, V0.xf, V0.no, E1.sub _ _ h2, E1.sub _ _ h3, rfl, q H1 G1 E1 Le.refl _ (.int _)⟩
    · exact False.elim q
end
end Rf

set_option maxRecDepth 100000
set_option maxHeartbeats 4000000
/-! # defs of one such value, of none; their calls -/
namespace Rf
open PySem PySem.Spec PyProof.Rows L2
def mV (f : Nat → D → FD) : FSem := fun cs => match cs with
  | [.rel k d] => match f k d with
    | .ret d => .ret d cs
    | .retO l => .retO l cs
    | .retK l => .retK l cs
    | .retV k l => .retV k l cs
    | .exc e => .exc e cs
    | .no => .no
  | _ => .no
def runV (n : Nat) (fn : Rho → OS) : Nat → D → FD := fun k d => match fn (start0 n [.rel k d]) with
    | .nx _ => .ret .none
    | .ret d _ => .ret d
    | .retO l _ => .retO l
    | .retK l _ => .retK l
    | .retV k l _ => .retV k l
    | .ex e _ => .exc e
    | .no => .no
theorem relNo {k : Nat} {d : D} : (∀ (i : Nat) l, [C.rel k d][i]? ≠ some (C.own l)) ∧ (∀ (i : Nat) l, [C.rel k d][i]? ≠ some (C.ref l)) ∧ (∀ (i : Nat) l, [C.rel k d][i]? ≠ some (C.dct l)) ∧ (∀ (i : Nat) l, [C.rel k d][i]? ≠ some (C.dat l)) ∧ (∀ (i : Nat) l, [C.rel k d][i]? ≠ some (C.raw l)) := by
  refine ⟨?_, ?_, ?_, ?_, ?_⟩ <;>
  · intro i l h
    match i, h with
    | 0, h => cases h
    | i + 1, h => simp at h
section
variable {B : Bs} {P : Program} {w : World} {mg : Str → Option Value} {base : Heap}
theorem EnvOk.relArg {S : Sit} {ρ : Rho} {σ : St} {H G : Hp} (E : EnvOk B S ρ σ H G) {k : Nat} {d : D} {v : V} (h : B.RV k d G v) : EnvOk B (Rf.reb (argsR [.rel k d]) (argsS [v]) H G) (argsR [.rel k d]) (argsS [v]) H G :=
  E.enter rfl (fun i d' e => absurd e (relNo.2.2.2.1 i d')) relNo.1 relNo.2.2.1 (fun i w e => absurd e (relNo.2.2.2.2 i w)) (fun i k' d' e => by match i, e with
      | 0, e => cases e; exact ⟨v, rfl, h⟩
      | i + 1, e => simp at e) (fun i l e => absurd e (relNo.2.1 i l)) fun i j l m e => absurd e (relNo.2.1 i l)
theorem ok_V {x qual : Str} {st : Stmt} {f : Addr} {fd : FuncData} {N ps : List Str} {k : Nat} {fn : Rho → OS} (F : Fun B.K x qual st f fd) (S : FnScope N ps (defScope st)) (h1 : ps.length = 1)
    (hbody : ∀ (cdv : Value) (A : Around) (outer : List Env) (s : Shared) (H : Hp) (E : XK), Room k (A.deeper (envOfC qual (defScope st) s.heap.objs.size f cdv)) →
      PSs (cxOf (L2N.CX P w) P w B.K mg base N qual (defScope st) f cdv A outer s H E) (defBody st) (tSt B (wishOf E) fn)) : FnOk P w B.K mg base (L2N.CX P w) (k + 1) f fd ps (spOf B (mV (runV N.length fn))) := by
  have hps : ps.length ≤ N.length := by have := congrArg List.length S.pre; rw [List.length_take] at this; omega
  have sel : ∀ {cs : List C}, mV (runV N.length fn) cs ≠ .no → ∃ k d, cs = [.rel k d] := fun {cs} h => by
    unfold mV at h
    split at h
    · rename_i k d; exact ⟨k, d, rfl⟩
    · exact absurd rfl h
  refine okN F S (fun vs H Q E h => ?_) (fun cdv hcd A outer s H vs Q E hr h => ?_)
  · obtain ⟨G, cs, no, nk, E0, h⟩ := h
    have hne : mV (runV N.length fn) cs ≠ .no := fun z => by rw [z] at h; exact h
    obtain ⟨kk, d, rfl⟩ := sel hne
    have := E0.len
    unfold argsR argsS at this
    rw [List.length_map, List.length_map] at this
    rw [h1]; exact this.symm
  · obtain ⟨G, cs, no, nk, E0, h⟩ := h
    have hne : mV (runV N.length fn) cs ≠ .no := fun z => by rw [z] at h; exact h
    obtain ⟨kk, d, rfl⟩ := sel hne
    refine ⟨_, hbody cdv A outer s H E hr, ?_⟩
    have hcl : [C.rel kk d].length ≤ N.length := by show 1 ≤ _; omega
    refine ⟨_, _, G, E0.widen hcl, ?_⟩
    have nar : ∀ {ρ' σ' H' G'}, EnvOk B (Rf.reb (start0 N.length [C.rel kk d]) (L2.start N vs) H G) ρ' σ' H' G' → EnvOk B (Rf.reb (argsR [C.rel kk d]) (argsS vs) H G) (argsR [C.rel kk d]) (argsS vs) H' G' := fun E1 =>
      E0.narrow no hcl E1 rfl (fun i d h => h) no nk (fun i v h => h) (fun i k d h => h) (fun i l h => absurd h (relNo.2.1 i l)) (fun i l h => absurd h (relNo.2.1 i l))
    have nw : ∀ {p : Addr}, (Rf.reb (start0 N.length [C.rel kk d]) (L2.start N vs) H G).W p → H p = none := fun {p} g3 => by
      rcases g3 with g3 | ⟨i, m, g3, _⟩ | ⟨i, ks, g3, _⟩
      · exact g3
      · rcases g3 with g3 | g3
        · exact absurd (start0_inv g3) (relNo.1 i m)
        · exact absurd (start0_inv g3) (relNo.2.1 i m)
      · exact absurd (start0_inv g3) (relNo.2.2.1 i ks)
    unfold mV at h
    dsimp only at h
    unfold runV at h
    cases ef : fn (start0 N.length [C.rel kk d]) with
    | nx ρ' =>
      rw [ef] at h
      exact fun σ' H' G' E1 _ => h .non H' G' (nar E1) .non
    | ret d ρ' =>
      rw [ef] at h
      exact fun σ' H' G' E1 _ v hv => h v H' G' (nar E1) hv
    | retO l ρ' =>
      rw [ef] at h
      intro σ' H' G' E1 _ p us g1 g2 g3 g4 g5 g6
      exact h p us H' G' (nar E1) g1 g2 (nw g3) g5 g6
    | retK ks0 ρ' =>
      rw [ef] at h
      intro σ' H' G' E1 _ p g1 g2 g3
      exact h p H' G' (nar E1) g1 g2 (nw g3)
    | retV k d ρ' =>
      rw [ef] at h
      exact fun σ' H' G' E1 _ v hv => h v H' G' (nar E1) hv
    | ex e ρ' =>
      rw [ef] at h
      exact fun cls a σ' H' G' E1 _ ex => h cls a H' G' (nar E1) ex
    | no => rw [ef] at h; exact h
theorem good_V1 {x : Str} {st : Stmt} {N ps : List Str} {k : Nat} {fn : Rho → OS} (d : Def1 B mg x st ps) (S : FnScope N ps (defScope st)) (h1 : ps.length = 1)
    (hbody : ∀ (f : Addr) (cdv : Value) (A : Around) (outer : List Env) (s : Shared) (H : Hp) (E : XK), Room k (A.deeper (envOfC x (defScope st) s.heap.objs.size f cdv)) →
      PSs (cxOf (L2N.CX P w) P w B.K mg base N x (defScope st) f cdv A outer s H E) (defBody st) (tSt B (wishOf E) fn)) : FnGood B P w mg base (k + 1) x ps.length (mV (runV N.length fn)) :=
  let ⟨a, fd, F, hb, hm⟩ := d.ex
  ⟨a, fd, ps, ok_V F S h1 (hbody a), hm, F.kp, hb, rfl⟩
end
section
variable {X : Cx} {B : Bs} {Wx : WX}
def sCallV (f : FSem) (k : Nat) (fa : Rho → O D) : Rho → O D := fun ρ => (fa ρ).bind fun d ρ1 => match f [.rel k d] with
  | .ret d _ => .ok d ρ1
  | .retO l _ => .ok (.list l) ρ1
  | .exc e _ => .ex e ρ1
  | _ => .no
theorem g_callV {k lv n : Nat} {x : Str} {f : FSem} {e : Expr} {p pos : Pos} {fa : Rho → O D} (hK : X.K = B.K) (F : FnGood B X.prog X.w X.mg X.base lv x n f) (hr : Room lv X.A) (tk : L2N.Takes X Wx) (ha : PE X e (tVv B Wx k fa)) (hg : Gl X x := by rfl) (hdb : (x == ("__debug__" : Str)) = false := by decide)
    (he : starEach [e] X.env = (false, eval e X.env) :: starEach [] X.env := by rfl) (hpl : (backTo pos (starEach [] X.env)).any (·.1) = false := by rfl) : PE X (.Call (.Name x p) [e] [] pos) (tEv B Wx (sCallV f k fa)) :=
  pe_late fun σ H Q ⟨S, ρ, G, E, P⟩ => by
    obtain ⟨ad, fd, ps, h1, h2, h3, h4, h5⟩ := F.ex
    rw [← hK] at h1 h3 h4
    have P1 := P.bind
    refine ⟨_, pe_callS h1 hr hg h2 h3 h4 (fun σ => L2N.passAt tk σ) (pa_cons ha pa_nil he) hdb he hpl, ⟨S, ρ, G, E, P1.imp fun d ρ1 H1 G1 E1 le1 P2 v hv => ?_⟩⟩
    refine ⟨G1, [.rel k d], relNo.1, relNo.2.2.1, E1.relArg hv, ?_⟩
    cases ef : f [.rel k d] with
    | no => rw [ef] at P2; exact P2
    | ret d' cs' =>
      rw [ef] at P2
      intro v H' G' E' dv
      obtain ⟨E2, le2⟩ := E1.backD relNo.2.1 relNo.1 relNo.2.2.1 E'
      exact P2 H' G' E2 le2 v dv
    | retO l cs' =>
      rw [ef] at P2
      intro p us H' G' E' g1 g2 g3 g4 g5
      obtain ⟨E2, le2⟩ := E1.backD relNo.2.1 relNo.1 relNo.2.2.1 E'
      have E3 := E2.freeze g1 g2 (S.wn p (E1.there p g3)) (E1.loose g3) g4
      exact P2 H' _ E3 (le2.trans (Le.upd g2)) _ (.lst (SqL.of upd_same) (DpAll.up (Le.upd g2) g5))
    | retK l cs' => rw [ef] at P2; exact P2.elim
    | retV k l cs' => rw [ef] at P2; exact P2.elim
    | exc e' cs' =>
      rw [ef] at P2
      intro cls a H' G' E' ex
      obtain ⟨E2, le2⟩ := E1.backD relNo.2.1 relNo.1 relNo.2.2.1 E'
      exact P2 cls a H' G' E2 le2 ex
/-- f() that gives a value of a kind and raises nothing -/
def sCall0V (f : FSem) (k : Nat) : Rho → O D := fun ρ => match f [] with
  | .retV k' d _ => if k' = k then .ok d ρ else .no
  | _ => .no
theorem passN0 {X : Cx} : Passes (L2N.CX X.prog X.w) X (fun _ _ _ => False) := fun _ _ _ _ _ _ _ h => by
  obtain ⟨a, Bh, H', cls, d, h1, h2, h3, h4, h5, h6, h7, h8⟩ := h
  exact h8.elim
theorem g_call0V {k lv n : Nat} {x : Str} {f : FSem} {p pos : Pos} (hK : X.K = B.K) (F : FnGood B X.prog X.w X.mg X.base lv x n f) (hr : Room lv X.A) (hg : Gl X x := by rfl) (hdb : (x == ("__debug__" : Str)) = false := by decide) : PE X (.Call (.Name x p) [] [] pos) (tVv B Wx k (sCall0V f k)) :=
  pe_late fun σ H Q ⟨S, ρ, G, E, P⟩ => by
    obtain ⟨ad, fd, ps, h1, h2, h3, h4, h5⟩ := F.ex
    rw [← hK] at h1 h3 h4
    refine ⟨_, pe_call0 (E := fun _ _ _ => False) h1 hr hg h2 h3 h4 .nil passN0 hdb, ?_⟩
    unfold sCall0V at P
    have e0 : ([] : List C) = ([] : List D).map C.dat := rfl
    refine ⟨G, [], fun i l h => by simp at h, fun i l h => by simp at h, enterD (ds := []) (vs := []) E .nil, ?_⟩
    cases ef : f [] with
    | no => rw [ef] at P; exact P.elim
    | ret d cs' => rw [ef] at P; exact P.elim
    | retO l cs' => rw [ef] at P; exact P.elim
    | retK l cs' => rw [ef] at P; exact P.elim
    | exc e cs' => rw [ef] at P; exact P.elim
    | retV k' d cs' =>
      rw [ef] at P
      dsimp only at P
      split at P
      · rename_i hk
        subst hk
        intro v H' G' E' dv
        obtain ⟨E2, le2⟩ := E.backD (cs := []) (fun i l h => by simp at h) (fun i l h => by simp at h) (fun i l h => by simp at h) E'
        exact P H' G' E2 le2 v dv
      · exact P.elim
end
end Rf

set_option maxRecDepth 100000
set_option maxHeartbeats 4000000
/-! # what the written part says of all error classes whose errors are values, asked at once -/
namespace Rf
open PySem PySem.Spec PyProof.Rows L2
/-- which classes an error of the class nm is in: its own, the base of all -/
def bfOf (c : Str) : Str → Bool := if c = "SpreadError" then fun _ => true else fun nm => nm == c
def kitAll (K : PySem.W.Frag) (L : List (Str × Addr)) (cm : Addr) (cv : Value) (bf : Str → Bool) : Bool := (L.all fun e => PySem.W.kitOne K (.ref e.2) cv == some (bf e.1)) && PySem.W.kitOne K (.ref cm) cv == some (bf "TooMany")
def valsB (K : PySem.W.Frag) (L : List (Str × Addr)) (cm : Addr) : Bool := (L.all fun e => erVB K e.2 && (PySem.W.excIn K e.2 veBases "ValueError.__new__" && kitAll K L cm (.ref e.2) (bfOf e.1))) && (erVB K cm && (xfB K cm && (PySem.W.findIn K (.ref cm) "limit" == some none &&
  (kitAll K L cm (.ref cm) (bfOf "TooMany") && kitAll K L cm (.type "ValueError") fun _ => true))))
structure ValE (K : PySem.W.Frag) (mg : Str → Option Value) (L : List (Str × Addr)) (cm : Addr) : Prop where
  own : ∀ nm C, (nm, C) ∈ L → mg nm = some (.ref C)
  tm : mg "TooMany" = some (.ref cm)
  ok : valsB K L cm = true
abbrev erNames : List Str := "SpreadError" :: errNames
section
variable {K : PySem.W.Frag} {mg : Str → Option Value} {L : List (Str × Addr)} {cm : Addr}
theorem kit_all {cv : Value} {bf : Str → Bool} (h : kitAll K L cm cv bf = true) : KitB K (clOf L) cm cv bf := by
  simp only [kitAll, Bool.and_eq_true, List.all_eq_true, beq_iff_eq] at h
  exact ⟨fun nm C e => h.1 _ (clOf_mem e), h.2⟩
theorem ValE.at (V : ValE K mg L cm) : (∀ nm C, clOf L nm = some C → mg nm = some (.ref C) ∧ ErV K C ∧ PySem.W.excIn K C veBases "ValueError.__new__" = true ∧ KitB K (clOf L) cm (.ref C) (bfOf nm)) ∧ ErVs K (clOf L) cm ∧ KitB K (clOf L) cm (.ref cm) (bfOf "TooMany") ∧ KitB K (clOf L) cm (.type "ValueError") fun _ => true := by
  have q := V.ok
  simp only [valsB, Bool.and_eq_true, List.all_eq_true, beq_iff_eq] at q
  obtain ⟨q1, q2, q3, q4, q5, q6⟩ := q
  refine ⟨fun nm C e => ?_, ⟨fun nm C e => erV_of (q1 _ (clOf_mem e)).1, erV_of q2, xfB_ok q3, q4⟩, kit_all q5, kit_all q6⟩
  obtain ⟨k1, k2, k3⟩ := q1 _ (clOf_mem e)
  exact ⟨V.own _ _ (clOf_mem e), erV_of k1, k2, kit_all k3⟩
end
section
variable {X : Cx} {B : Bs} {Wx : WX} {L : List (Str × Addr)} {cm : Addr}
theorem gx_new {x m : Str} {j : Nat} {p p2 pos : Pos} (hK : X.K = B.K) (hV : B.RV = relE (clOf L) cm) (V : ValE B.K X.mg L cm) (hx : ∃ C, clOf L x = some C)
    (hg : Gl X x := by rfl) (hs : starEach [.Constant (.str m) j p2] X.env = (false, eval (.Constant (.str m) j p2) X.env) :: starEach [] X.env := by rfl) (hdb : (x == ("__debug__" : Str)) = false := by decide) :
    PE X (.Call (.Name x p) [.Constant (.str m) j p2] [] pos) (tVv B Wx 0 (sCon (.tuple [.str x, .str m]))) := by
  obtain ⟨C, h⟩ := hx
  obtain ⟨h1, h2, h3, _⟩ := V.at.1 x C h
  exact g_exS hK hV h h1 h3 h2.is.kp hg hs hdb
theorem gx_is {e : Expr} {c : Str} {p1 p3 pos : Pos} {fe : Rho → O D} (hK : X.K = B.K) (hV : B.RV = relE (clOf L) cm) (V : ValE B.K X.mg L cm) (hx : (∃ C, clOf L c = some C) ∨ c = "TooMany") (hm : X.mg "isinstance" = none) (he : PE X e (tVv B Wx 0 fe))
    (hg : Gl X "isinstance" := by rfl) (hgc : Gl X c := by rfl) (hdc : (c == ("__debug__" : Str)) = false := by decide)
    (hs : starEach [e, .Name c p3] X.env = (false, eval e X.env) :: starEach [.Name c p3] X.env := by rfl) (hs2 : starEach [.Name c p3] X.env = (false, eval (.Name c p3) X.env) :: starEach [] X.env := by rfl) (hpl : (backTo pos (starEach [.Name c p3] X.env)).any (·.1) = false := by rfl) :
    PE X (.Call (.Name "isinstance" p1) [e, .Name c p3] [] pos) (tEv B Wx (sIsV (bfOf c) fe)) := by
  rcases hx with ⟨C, h⟩ | rfl
  · obtain ⟨h1, h2, h3, h4⟩ := V.at.1 c C h
    exact g_isV hK hV V.at.2.1 hm h1 h4 he hg hgc hdc hs hs2 hpl
  · exact g_isV hK hV V.at.2.1 hm V.tm V.at.2.2.1 he hg hgc hdc hs hs2 hpl
theorem gx_isv {e : Expr} {p1 p3 pos : Pos} {fe : Rho → O D} (hK : X.K = B.K) (hV : B.RV = relE (clOf L) cm) (V : ValE B.K X.mg L cm) (hm : X.mg "isinstance" = none) (hc : X.mg "ValueError" = none) (he : PE X e (tVv B Wx 0 fe))
    (hg : Gl X "isinstance" := by rfl) (hgc : Gl X "ValueError" := by rfl)
    (hs : starEach [e, .Name "ValueError" p3] X.env = (false, eval e X.env) :: starEach [.Name "ValueError" p3] X.env := by rfl) (hs2 : starEach [.Name "ValueError" p3] X.env = (false, eval (.Name "ValueError" p3) X.env) :: starEach [] X.env := by rfl) (hpl : (backTo pos (starEach [.Name "ValueError" p3] X.env)).any (·.1) = false := by rfl) :
    PE X (.Call (.Name "isinstance" p1) [e, .Name "ValueError" p3] [] pos) (tEv B Wx (sIsV (fun _ => true) fe)) :=
  g_isVt hK hV V.at.2.1 hm hc V.at.2.2.2 he (by decide +kernel) hg hgc (by decide) (by decide) hs hs2 hpl
end
end Rf

set_option maxRecDepth 100000
set_option maxHeartbeats 4000000
/-! # a new list, of no slot, lent to a def -/
namespace Rf
open PySem PySem.Spec PyProof.Rows L2
section
variable {X : Cx} {B : Bs} {Wx : WX}
theorem lentNo {l : List D} {ds : List D} : (∀ (i : Nat) m, (C.ref l :: ds.map C.dat)[i]? ≠ some (C.own m)) ∧ (∀ (i : Nat) m, (C.ref l :: ds.map C.dat)[i]? ≠ some (C.dct m)) ∧ (∀ (i : Nat) m, (C.ref l :: ds.map C.dat)[i]? ≠ some (C.raw m)) ∧ (∀ (i k : Nat) m, (C.ref l :: ds.map C.dat)[i]? ≠ some (C.rel k m)) ∧ (∀ (i : Nat) m, (C.ref l :: ds.map C.dat)[i]? = some (C.ref m) → i = 0 ∧ m = l) := by
  refine ⟨fun i m h => ?_, fun i m h => ?_, fun i m h => ?_, fun i k m h => ?_, fun i m h => ?_⟩
  · cases i with
    | zero => cases h
    | succ i => exact (datsNo (ds := ds)).2 i m h
  · cases i with
    | zero => cases h
    | succ i => exact datsK (ds := ds) i m h
  · cases i with
    | zero => cases h
    | succ i => exact datsW (ds := ds) i m h
  · cases i with
    | zero => cases h
    | succ i => exact datsQ (ds := ds) i k m h
  · cases i with
    | zero => cases h; exact ⟨rfl, rfl⟩
    | succ i => exact absurd h ((datsNo (ds := ds)).1 i m)
theorem EnvOk.enterT {S : Sit} {ρ : Rho} {σ : St} {H G : Hp} (E : EnvOk B S ρ σ H G) {a : Addr} {us vs : List V} {l ds : List D} (hp : H a = some (.lst us)) (hg : G a = none) (hd : DpAll B.K G us l) (hz : us.length ≤ sizeLine) (h : DpAll B.K G vs ds) :
    EnvOk B (Rf.reb (argsR (.ref l :: ds.map .dat)) (argsS (.ref a :: vs)) H G) (argsR (.ref l :: ds.map .dat)) (argsS (.ref a :: vs)) H G := by
  have sget : ∀ (i : Nat) v, (V.ref a :: vs)[i]? = some v → (argsS (.ref a :: vs))[i]? = some (some v) := fun i v h => by
    unfold argsS
    rw [List.getElem?_map, h]; rfl
  have hh : ∀ (i : Nat) m, Hd (argsR (C.ref l :: ds.map C.dat)) i m → i = 0 ∧ m = l := fun i m h => by
    rcases h with h | h
    · exact absurd (argsR_ref h) (lentNo.1 i m)
    · exact lentNo.2.2.2.2 i m (argsR_ref h)
  exact {
    sub := E.sub
    nt := E.nt
    sz := E.sz
    j := E.j
    keep := fun b o e _ _ => e
    there := fun b e => e
    gsub := fun b o e => e
    gnew := fun b o e => .inl e
    len := by unfold argsR argsS; rw [List.length_map, List.length_map, List.length_cons, List.length_cons, List.length_map, h.length]
    dat := fun i d e => by
      have e := argsR_ref e
      cases i with
      | zero => cases e
      | succ i =>
        obtain ⟨v, h1, h2⟩ := h.get (dats_get (show (ds.map C.dat)[i]? = some _ from e))
        exact ⟨v, sget (i + 1) v h1, h2⟩
    dct := fun i ks e => absurd (argsR_ref e) (lentNo.2.1 i ks)
    raw := fun i v e => absurd (argsR_ref e) (lentNo.2.2.1 i v)
    rel := fun i k d e => absurd (argsR_ref e) (lentNo.2.2.2.1 i k d)
    dnq := fun i j ks ks' e _ => absurd (argsR_ref e) (lentNo.2.1 i ks)
    held := fun i m e => by
      obtain ⟨rfl, rfl⟩ := hh i m e
      exact ⟨a, us, sget 0 _ rfl, hp, hg, hd, .inr (.inl ⟨0, m, e, sget 0 _ rfl⟩), hz⟩
    ref := fun i l h => ⟨rfl, l, h⟩
    sep := fun i j m n hij e1 e2 => by
      obtain ⟨rfl, _⟩ := hh i m e1
      obtain ⟨rfl, _⟩ := hh j n e2
      exact absurd rfl hij
    isref := fun i l h => ⟨l, h⟩ }
theorem EnvOk.backT {S : Sit} {ρ : Rho} {σ : St} {H G H' G' : Hp} (E : EnvOk B S ρ σ H G) {l l' : List D} {a : Addr} {us : List V} {ds : List D} {cs' : List C} {vs : List V} (hp : H a = some (.lst us)) (hg : G a = none) (hw : S.W a) (lo : Loose ρ σ a)
    (E' : EnvOk B (Rf.reb (argsR (.ref l :: ds.map .dat)) (argsS (.ref a :: vs)) H G) (argsR (.ref l' :: cs')) (argsS (.ref a :: vs)) H' G') : EnvOk B S ρ σ H' G' ∧ Le G G' := by
  have wc : ∀ b, (Rf.reb (argsR (.ref l :: ds.map .dat)) (argsS (.ref a :: vs)) H G).W b → H b = none ∨ b = a := fun b hb => by
    rcases hb with hb | ⟨x, m, hb, hs⟩ | ⟨x, ks, hb, _⟩
    · exact .inl hb
    · have : x = 0 := by
        rcases hb with hb | hb
        · exact absurd (argsR_ref hb) (lentNo.1 x m)
        · exact (lentNo.2.2.2.2 x m (argsR_ref hb)).1
      subst this
      have z : (argsS (.ref a :: vs))[0]? = some (some (V.ref a)) := rfl
      rw [z] at hs
      cases hs
      exact .inr rfl
    · exact absurd (argsR_ref hb) (lentNo.2.1 x ks)
  obtain ⟨a', ws, k1, k2, k3, k4, k5, k6⟩ := E'.held 0 l' (.inr rfl)
  have z : (argsS (.ref a :: vs))[0]? = some (some (V.ref a)) := rfl
  rw [z] at k1
  cases k1
  have E1 := E.upl (ws := ws) hp hg hw lo
  refine ⟨E1.grow (fun b o e t => ?_) (fun b e => ?_) (fun b o e => E'.gsub b o e) (fun b o e => ?_) E'.sub E'.nt E'.sz E'.j, fun b o e => E'.gsub b o e⟩
  · by_cases hb : b = a
    · subst hb; rw [upd_same] at e; cases e; exact k2
    · rw [upd_ne hb] at e
      exact E'.keep b o e (fun w => by
        rcases wc b w with w | w
        · rw [w] at e; cases e
        · exact hb w) t
  · by_cases hb : b = a
    · subst hb; rw [k2] at e; cases e
    · rw [upd_ne hb]; exact E'.there b e
  · rcases E'.gnew b o e with h | h
    · exact .inl h
    · rcases wc b h with h | h
      · by_cases hb : b = a
        · subst hb; rw [k3] at e; cases e
        · exact .inr (by rw [upd_ne hb]; exact h)
      · subst h; rw [k3] at e; cases e
/-- f(e, c): e a new list that f may change, c a number -/
def sCallT (f : FSem) (fa : Rho → O (List D)) (c : Int) : Rho → O D := fun ρ => (fa ρ).bind fun l ρ1 => match f [.ref l, .dat (.int c)] with
  | .ret d (.ref _ :: _) => .ok d ρ1
  | .exc e (.ref _ :: _) => .ex e ρ1
  | _ => .no
theorem g_callT {lv n j : Nat} {x : Str} {f : FSem} {e : Expr} {c : Int} {p p2 pos : Pos} {fa : Rho → O (List D)} (hK : X.K = B.K) (F : FnGood B X.prog X.w X.mg X.base lv x n f) (hr : Room lv X.A) (tk : L2N.Takes X Wx) (ha : PE X e (tEo B Wx fa)) (hg : Gl X x := by rfl) (hdb : (x == ("__debug__" : Str)) = false := by decide)
    (he : starEach [e, .Constant (.int c) j p2] X.env = (false, eval e X.env) :: starEach [.Constant (.int c) j p2] X.env := by rfl) (he2 : starEach [.Constant (.int c) j p2] X.env = (false, eval (.Constant (.int c) j p2) X.env) :: starEach [] X.env := by rfl) (hpl : (backTo pos (starEach [.Constant (.int c) j p2] X.env)).any (·.1) = false := by rfl) :
    PE X (.Call (.Name x p) [e, .Constant (.int c) j p2] [] pos) (tEv B Wx (sCallT f fa c)) :=
  pe_late fun σ H Q ⟨S, ρ, G, E, P⟩ => by
    obtain ⟨ad, fd, ps, h1, h2, h3, h4, h5⟩ := F.ex
    rw [← hK] at h1 h3 h4
    have P1 := P.bind
    refine ⟨_, pe_callS h1 hr hg h2 h3 h4 (fun σ => L2N.passAt tk σ) (pa_cons ha (pa_cons pe_int pa_nil he2) he) hdb he hpl, ⟨S, ρ, G, E, P1.imp fun l ρ1 H1 G1 E1 le1 P2 p us g1 g2 g3 g4 g5 g6 => ?_⟩⟩
    refine ⟨G1, [.ref l, .dat (.int c)], (lentNo (ds := [.int c])).1, (lentNo (ds := [.int c])).2.1, E1.enterT (ds := [.int c]) g1 g2 g6 g5 (.cons (.int c) .nil), ?_⟩
    cases ef : f [.ref l, .dat (.int c)] with
    | no => rw [ef] at P2; exact P2
    | ret d cs' =>
      rw [ef] at P2
      intro v H' G' E' dv
      match cs', P2, E' with
      | .ref l' :: r, P2, E' =>
        obtain ⟨E2, le2⟩ := E1.backT (ds := [.int c]) g1 g2 g3 g4 E'
        exact P2 H' G' E2 le2 v dv
      | [], P2, E' => exact False.elim P2
      | .dat _ :: _, P2, E' => exact False.elim P2
      | .own _ :: _, P2, E' => exact False.elim P2
      | .dct _ :: _, P2, E' => exact False.elim P2
      | .raw _ :: _, P2, E' => exact False.elim P2
      | .rel _ _ :: _, P2, E' => exact False.elim P2
    | retO l2 cs' => rw [ef] at P2; exact P2.elim
    | retK l2 cs' => rw [ef] at P2; exact P2.elim
    | retV k l2 cs' => rw [ef] at P2; exact P2.elim
    | exc e' cs' =>
      rw [ef] at P2
      intro cls b H' G' E' ex
      match cs', P2, E' with
      | .ref l' :: r, P2, E' =>
        obtain ⟨E2, le2⟩ := E1.backT (ds := [.int c]) g1 g2 g3 g4 E'
        exact P2 cls b H' G' E2 le2 ex
      | [], P2, E' => exact False.elim P2
      | .dat _ :: _, P2, E' => exact False.elim P2
      | .own _ :: _, P2, E' => exact False.elim P2
      | .dct _ :: _, P2, E' => exact False.elim P2
      | .raw _ :: _, P2, E' => exact False.elim P2
      | .rel _ _ :: _, P2, E' => exact False.elim P2
end
end Rf

set_option maxRecDepth 100000
set_option maxHeartbeats 4000000
/-! # x, y = a, b with a new list of one's own: by way of a tuple; the list first -/
namespace Rf
open PySem PySem.Spec PyProof.Rows L2
section
variable {X : Cx} {B : Bs} {Wx : WX}
theorem gq_tupO (i j : Nat) {x y : Str} {a b : Expr} {px py pt : Pos} {kt k2 : Nat} {pt2 pos : Pos} {fa : Rho → O Rf.D} {fb : Rho → O (List Rf.D)} (hc : X.calm = true) (hN : X.N.Nodup) (ha : PE X a (tEv B Wx fa)) (hb : PE X b (tEo B Wx fb)) (hi : X.N[i]? = some x := by rfl) (hj : X.N[j]? = some y := by rfl) (hij : i ≠ j := by decide)
    (hx : Loc X.env.scope x := by first | exact .inl rfl | exact .inr rfl) (hfx : X.fn x = true ∨ X.env.scope.names.lookup x = some .local := by first | exact .inl rfl | exact .inr rfl) (hy : Loc X.env.scope y := by first | exact .inl rfl | exact .inr rfl) (hfy : X.fn y = true ∨ X.env.scope.names.lookup y = some .local := by first | exact .inl rfl | exact .inr rfl)
    (hsa : starEach [a, b] X.env = (false, eval a X.env) :: starEach [b] X.env := by rfl) (hsb : starEach [b] X.env = (false, eval b X.env) :: starEach [] X.env := by rfl)
    (hn : (assignEach [.Name x px, .Name y py] X.env).length = 2 := by rfl) (hst : (assignEach [.Name x px, .Name y py] X.env).findIdx? (·.1) = none := by rfl)
    (hm1 : (assignEach [.Name x px, .Name y py] X.env).map (·.2) = assign (.Name x px) X.env :: (assignEach [.Name y py] X.env).map (·.2) := by rfl) (hm2 : (assignEach [.Name y py] X.env).map (·.2) = assign (.Name y py) X.env :: (assignEach [] X.env).map (·.2) := by rfl)
    (hs : swapsWithSole [.Tuple [.Name x px, .Name y py] kt pt] (.Tuple [a, b] k2 pt2) pos.line X.env = pure false := by rfl) (hw : swappedStores [.Tuple [.Name x px, .Name y py] kt pt] (.Tuple [a, b] k2 pt2) X.env = pure none := by rfl)
    (h1 : (assignEach [.Tuple [.Name x px, .Name y py] kt pt] X.env).map (·.2) = [assign (.Tuple [.Name x px, .Name y py] kt pt) X.env] := by rfl) :
    PS X (.Assign [.Tuple [.Name x px, .Name y py] kt pt] (.Tuple [a, b] k2 pt2) pos) (tSt B Wx (sParO i j fa fb)) :=
  (ps_asg (pe_tup (pa_cons ha (pa_cons hb pa_nil hsb) hsa)) (pg_tup hc (pgs_cons (pg_name hN hi hx hfx) (pgs_cons (pg_name hN hj hy hfy) pgs_nil hm2) hm1) hn hst) hs hw h1).imp' fun D σ H ⟨S, ρ, G, E, P⟩ => by
    refine ⟨S, ρ, G, E, P.run.imp fun d ρ1 H1 G1 E1 le1 q v hv => ?_⟩
    refine ⟨S, ρ1, G1, E1, q.run.imp fun l ρ2 H2 G2 E2 le2 q2 p us h1 h2 h3 h4 h5 h6 => ?_⟩
    refine ⟨show 2 ≤ sizeLine by rw [line_eq]; omega, fun t ht => ⟨t, [v, .ref p], rfl, .inl (.inl upd_same), rfl, v, [.ref p], rfl, .ref p, [], rfl, rfl, ?_⟩⟩
    cases e1 : Rf.ownN j l ρ2 with
    | none => rw [e1] at q2; exact False.elim q2
    | some ρ3 =>
      rw [e1] at q2
      have q2 : PostS B S Wx G2 (match bindN i d ρ3 with | some ρ3 => .nx ρ3 | none => .no) D := q2
      cases e2 : Rf.bindN i d ρ3 with
      | none => rw [e2] at q2; exact False.elim q2
      | some ρ4 =>
        rw [e2] at q2
        have E2' := E2.fresh (o := .tup [v, .ref p]) ht
        have h1' : (upd H2 t (.tup [v, .ref p])) p = some (.lst us) := by rw [upd_ne (fun z => by rw [z, ht] at h1; cases h1)]; exact h1
        have E3 := (E2'.ownN e1 h1' h2 h3 h4 h5 h6).bindN e2 (Dp.up le2 hv)
        rw [List.set_comm _ _ (Ne.symm hij)] at E3
        exact q2 _ _ G2 E3 Le.refl
/-- x, y = a new list, a number -/
def sParN (i j : Nat) (fa : Rho → O (List Rf.D)) (c : Int) : Rho → OS := fun ρ => (fa ρ).run fun l ρ1 => match (ownN i l ρ1).bind (bindN j (.int c)) with
  | some ρ3 => .nx ρ3
  | none => .no
theorem gq_parN (i j : Nat) {x y : Str} {a : Expr} {c : Int} {jj : Nat} {px py pt pc : Pos} {kt k2 : Nat} {pt2 pos : Pos} {fa : Rho → O (List Rf.D)} (hc : X.calm = true) (hN : X.N.Nodup) (ha : PE X a (tEo B Wx fa)) (hi : X.N[i]? = some x := by rfl) (hj : X.N[j]? = some y := by rfl) (hij : i ≠ j := by decide) (hx : X.env.scope.names.lookup x = some .local := by rfl) (hy : X.env.scope.names.lookup y = some .local := by rfl)
    (hsa : starEach [a, .Constant (.int c) jj pc] X.env = (false, eval a X.env) :: starEach [.Constant (.int c) jj pc] X.env := by rfl) (hsb : starEach [.Constant (.int c) jj pc] X.env = (false, eval (.Constant (.int c) jj pc) X.env) :: starEach [] X.env := by rfl)
    (hw : swappedStores [.Tuple [.Name x px, .Name y py] kt pt] (.Tuple [a, .Constant (.int c) jj pc] k2 pt2) X.env = pure (some [x, y]) := by rfl) (hs : swapsWithSole [.Tuple [.Name x px, .Name y py] kt pt] (.Tuple [a, .Constant (.int c) jj pc] k2 pt2) pos.line X.env = pure false := by rfl) :
    PS X (.Assign [.Tuple [.Name x px, .Name y py] kt pt] (.Tuple [a, .Constant (.int c) jj pc] k2 pt2) pos) (tSt B Wx (sParN i j fa c)) :=
  (ps_par hc hN hi hj hij hx hy (pa_cons ha (pa_cons pe_int pa_nil hsb) hsa) hw hs).imp' fun D σ H ⟨S, ρ, G, E, P⟩ => by
    refine ⟨S, ρ, G, E, P.run.imp fun l ρ2 H2 G2 E2 le2 q2 p us h1 h2 h3 h4 h5 h6 => ?_⟩
    cases e1 : Rf.ownN i l ρ2 with
    | none => rw [e1] at q2; exact False.elim q2
    | some ρ3 =>
      rw [e1] at q2
      have q2 : PostS B S Wx G2 (match bindN j (.int c) ρ3 with | some ρ3 => .nx ρ3 | none => .no) D := q2
      cases e2 : Rf.bindN j (.int c) ρ3 with
      | none => rw [e2] at q2; exact False.elim q2
      | some ρ4 =>
        rw [e2] at q2
        refine ⟨.ref p, .int c, rfl, ?_⟩
        have E3 := (E2.ownN e1 h1 h2 h3 h4 h5 h6).bindN e2 (.int c)
        exact q2 _ H2 G2 E3 Le.refl
end
end Rf

set_option maxRecDepth 100000
set_option maxHeartbeats 4000000
/-! # lambdas kept in a list, that another def calls one by one -/
namespace Rf
open PySem PySem.Spec PyProof.Rows L2 LamX
section
variable {X : Cx}
theorem lc_coreU {pins : List (Addr × Obj)} {s : Shared} {σ : St} {H : Hp} {Q : VK} {elt tg iter : Expr} {ifs : List Expr} {scope : Scope} {own : List (Str × Nat)} {pos pos' : Pos} {wi : TI} {g : TG} {tt : TT} {te : TE} {use : Option (Value → Sem Unit)} {Qf : Value → Shared → Prop}
    (hc : X.calm = true) (hN : X.N.Nodup) (I : Inv X pins σ H s) (hi : PI X tg iter wi) (okz : BlkOk X.N X.env.scope scope own)
    (hg : ∀ (s : Shared) (H : Hp) (C : Addr) (cl : List (Str × Addr)) (fp : List Addr), PG (X.blk s H scope (compEnvC scope cl C X.env) fp) tg g) (ht : ∀ (s : Shared) (H : Hp) (C : Addr) (cl : List (Str × Addr)) (fp : List Addr), PTs (X.blk s H scope (compEnvC scope cl C X.env) fp) ifs tt)
    (he : ∀ (s : Shared) (H : Hp) (C : Addr) (cl : List (Str × Addr)) (fp : List Addr), Un X.fs X.ex X.H_0 H X.s_0.heap s.heap → (∀ b ∈ fp, b ∈ X.ex ∨ X.s_0.heap.objs.size ≤ b) → PE (X.blk s H scope (compEnvC scope cl C X.env) fp) elt te) (hs : ∀ x, foldedSetIterable iter X.env x = pure x)
    (h : tLc wi g tt te (own.map (·.2)) σ H Q)
    (hRR : ∀ D C s' m H', Inv X pins σ H' s' → Q (.ref D) H' → s'.heap.Ns C m → FpOk X pins H' C → compPost (model X.prog X.w) X.A X.xe use Qf (.ref D) C (.ok .next) s') :
    wpAny (model X.prog X.w) X.A (comprehension (.ListComp elt [⟨tg, iter, ifs, 0⟩] scope pos) scope X.env pos' (newList []) false (eval iter X.env) use) Qf X.xe s := by
  have hfreez : ∀ y ∈ scope.names, y.2 = .free → ∃ c, X.env.cells.lookup y.1 = some c := fun y hy e => by
    rcases okz.free y hy e with k | k
    · exact I.ok.has _ (.inl k)
    · exact I.ok.has _ (.inr k)
  refine wpAny_comprehension_free (use := use) rfl hs (closure_ok hfreez) okz.kind (fun y hy e => by rw [okz.uniq y hy, e])
    (thn (hi.run pins s σ H _ I h) fun xvz s1z hxz => thn hxz fun itvz s2z h2 => ?_)
  obtain ⟨it, fp, tn, Jz, H2z, e, I2z, T, st2, f2z, q⟩ := h2
  subst e
  refine wpAny_newObj_type (newEnv_comp ?_) (by show 0 ≤ sizeLine; decide)
  generalize hDz : s2z.heap.objs.size = D
  have hDnz : H2z D = none := I2z.hok.fresh (Nat.le_of_eq hDz)
  obtain ⟨W, ⟨m0z, w0z⟩, turnz⟩ := q D hDnz
  generalize hs3z : ({ s2z with heap := s2z.heap.push { cls := .type "list", data := .seq ([] : List Value).toArray } } : Shared) = s3z
  have I3z : Inv X pins σ (upd H2z D (.lst [])) s3z := by
    rw [← hs3z]
    refine I2z.laid (t' := s2z.toks) (fun b o e => Heap.get?_push_of_some _ e) (Nat.le_of_eq hDz) ⟨Nat.zero_le _, [], 0, .nil, ?_⟩
    rw [← hDz]
    exact Heap.get?_push_size _ rfl
  have h3z : s3z.heap = s2z.heap.push { cls := .type "list", data := .seq ([] : List Value).toArray } := by rw [← hs3z]
  have szz : ∀ b ∈ fp, b < s2z.heap.objs.size := fun b hb => by
    obtain ⟨o, e, _⟩ := T.obj _ _ st2 b hb
    exact Heap.lt_size e
  have f3z : ∀ b ∈ fp, FpOk X pins (upd H2z D (.lst [])) b ∧ b < s3z.heap.objs.size := fun b hb => by
    have hltz := szz b hb
    refine ⟨⟨?_, (f2z b hb).2⟩, by rw [h3z, Heap.size_push]; exact Nat.lt_succ_of_lt hltz⟩
    rw [upd_ne (by rw [← hDz]; exact Nat.ne_of_lt hltz)]
    exact (f2z b hb).1
  have st3z : tn 0 s3z.heap := T.keep _ _ _ st2 fun b _ o e => by rw [h3z]; exact Heap.get?_push_of_some _ e
  have I4z := block_start I3z okz hN f3z
  have pgz := hg s3z (upd H2z D (.lst [])) s3z.heap.objs.size (cellsFrom (s3z.heap.objs.size + 1) scope.names (cloFrom X.env.cells scope.names [])) fp
  have ptz := ht s3z (upd H2z D (.lst [])) s3z.heap.objs.size (cellsFrom (s3z.heap.objs.size + 1) scope.names (cloFrom X.env.cells scope.names [])) fp
  have pez := he s3z (upd H2z D (.lst [])) s3z.heap.objs.size (cellsFrom (s3z.heap.objs.size + 1) scope.names (cloFrom X.env.cells scope.names [])) fp I3z.base (fun b hb => (f3z b hb).1.2.2.2.1)
  show codeAny _ _ (.compStart (.ListComp elt [⟨tg, iter, ifs, 0⟩] scope pos) 0 (.ref it) (.ref D) (compEnvC scope (cellsFrom (s3z.heap.objs.size + 1) scope.names (cloFrom X.env.cells scope.names [])) s3z.heap.objs.size X.env)) (compPost (model X.prog X.w) X.A X.xe use Qf (.ref D) s3z.heap.objs.size) { s3z with heap := pushCells (s3z.heap.push { cls := .type "dict", data := .dict #[] }) scope.names }
  have nfpz : ∀ b ∈ fp, (upd H2z D (.lst [])) b = none := fun b hb => (f3z b hb).1.1
  generalize hcez : compEnvC scope (cellsFrom (s3z.heap.objs.size + 1) scope.names (cloFrom X.env.cells scope.names [])) s3z.heap.objs.size X.env = ce at I4z pgz ptz pez ⊢
  have cLz : ce.locals = s3z.heap.objs.size := by subst hcez; rfl
  generalize hH3z : upd H2z D (.lst []) = H3z at I3z I4z pgz ptz pez w0z nfpz f3z
  generalize hs4z : ({ s3z with heap := pushCells (s3z.heap.push { cls := .type "dict", data := .dict #[] }) scope.names } : Shared) = s4z at I4z ⊢
  have st4z : tn 0 s4z.heap := T.keep _ _ _ st3z fun b _ o e => by rw [← hs4z]; exact pushCells_keeps _ _ _ _ (Heap.get?_push_of_some _ e)
  have statz : ∀ {σ' : St} {H' : Hp} {s' : Shared}, Inv (X.blk s3z H3z scope ce fp) [] σ' H' s' → (∀ b ∈ fp, H' b = none) → ∀ b ∈ fp, FpOk (X.blk s3z H3z scope ce fp) [] H' b := fun {σ' H' s'} I' hnz b hb =>
    ⟨hnz b hb, (I'.ok.exf b hb).1, I'.ok.exfs b hb, .inl hb, fun x c e => (I'.ok.exf b hb).2 x c e, fun p hp => absurd (show p ∈ ([] : List (Addr × Obj)) ++ [] from hp) (by simp)⟩
  have loopz : codeAny (model X.prog X.w) X.A (.compLoop (.ListComp elt [⟨tg, iter, ifs, 0⟩] scope pos) 0 (.ref it) (.ref D) ce) (compPost (model X.prog X.w) X.A X.xe use Qf (.ref D) s3z.heap.objs.size) s4z := by
    refine compLoop_any (fun n s' => ∃ i H', Inv (X.blk s3z H3z scope ce fp) [] (wipe σ (own.map (·.2))) H' s' ∧ tn i s'.heap ∧ (∀ b ∈ fp, H' b = none) ∧ W i n H') ?_ m0z ⟨0, H3z, I4z, st4z, nfpz, w0z⟩
    rintro n s5z ⟨i, H5z, I5z, st5z, n5z, w5z⟩
    rcases turnz i n H5z w5z with ⟨stop, qqz⟩ | ⟨go, Nx, hNx, step⟩
    · have tdz := T.done (X.blk s3z H3z scope ce fp) rfl rfl rfl hc i [] s5z _ H5z (fun _ _ => False) I5z (statz I5z n5z) st5z stop
      refine thnF tdz fun r s6z ⟨hr, I6z⟩ => ?_
      subst hr
      have I7z : Inv X pins σ H5z s6z := I3z.call' (ch := fp) I6z.os I6z.base I6z.hok I6z.bare fun b hb => ⟨(f3z b hb).1.2.2.2.1, (f3z b hb).1.2.1, (f3z b hb).1.2.2.2.2.1, (f3z b hb).1.2.2.2.2.2⟩
      have nCz : H5z s3z.heap.objs.size = none := by
        have z : H5z ce.locals = none := I6z.free
        rw [cLz] at z
        exact z
      obtain ⟨m, hnz, _⟩ := I6z.loc
      have hnz : s6z.heap.Ns ce.locals m := hnz
      rw [cLz] at hnz
      exact hRR D s3z.heap.objs.size s6z m H5z I7z qqz hnz (I3z.fpOk (Nat.le_refl _) nCz)
    · have tiz := T.item (X.blk s3z H3z scope ce fp) rfl rfl rfl hc i [] s5z _ H5z (fun _ _ => False) I5z (statz I5z n5z) st5z go
      refine thnF tiz fun r s6z ⟨u, hr, h6⟩ => ?_
      subst hr
      refine thnF h6 fun _ s7z ⟨x, H7z, I7z, r7z, y7z, st7z, n7z⟩ => ?_
      have I7z' := I7z.pinned (statz I7z n7z) (T.obj _ _ st7z)
      refine thnF (pgz.run _ s7z _ H7z x u _ I7z' r7z (step x H7z y7z)) fun _ s8z ⟨σ8z, H8z, I8z, hw8z, q8z⟩ => ?_
      refine thnF (ptz.run _ s8z σ8z H8z _ I8z q8z) fun b s9z ⟨H9z, I9z, q9z⟩ => ?_
      have finz : ∀ {s' : Shared} {H' : Hp}, Inv (X.blk s3z H3z scope ce fp) ([] ++ pinsAt fp s7z.heap) σ8z H' s' → Nx H' → ∃ m, m < n ∧ ∃ i H', Inv (X.blk s3z H3z scope ce fp) [] (wipe σ (own.map (·.2))) H' s' ∧ tn i s'.heap ∧ (∀ b ∈ fp, H' b = none) ∧ W i m H' := fun {s' H'} I' nxz => by
        obtain ⟨m', hmz, w'⟩ := hNx H' nxz
        have pinz' : ∀ b ∈ fp, ∀ o, s7z.heap.get? b = some o → s'.heap.get? b = some o ∧ H' b = none := fun b hb o e =>
          let z := I'.pin (b, o) (List.mem_append_right _ (List.mem_append_right _ (mem_pinsAt hb e)))
          ⟨z.1, z.2.1⟩
        have hlz : (wipe σ (own.map (·.2))).length = σ8z.length := by rw [← hw8z, wipe_length]
        refine ⟨m', hmz, i + 1, H', (I'.unpinned (pins := [])).weak hlz (fun j v e => ?_), T.keep _ _ _ st7z fun b hb o e => (pinz' b hb o e).1, fun b hb => ?_, w'⟩
        · rw [← hw8z] at e
          exact (wipe_some e).1
        · obtain ⟨o, e, _⟩ := T.obj _ _ st7z b hb
          exact (pinz' b hb o e).2
      cases b with
      | false =>
        simp only [Bool.false_eq_true, if_false] at q9z ⊢
        exact finz I9z q9z
      | true =>
        simp only [if_true] at q9z ⊢
        refine thnF (pez.run _ s9z σ8z H9z _ I9z q9z) fun z s10z ⟨yv, H10z, I10z, r10, accz, hD10z, hz10z, nxz⟩ => ?_
        exact app_ok (X := X.blk s3z H3z scope ce fp) I10z hD10z hz10z r10 fun s11z I11z => finz I11z nxz
  exact codeAny_compStart_list loopz (T.self X.A 0 _ _ _ st4z loopz)
theorem pe_lcU {elt tg iter : Expr} {ifs : List Expr} {scope : Scope} {own : List (Str × Nat)} {pos : Pos} {wi : TI} {g : TG} {tt : TT} {te : TE} (hc : X.calm = true) (hN : X.N.Nodup) (hi : PI X tg iter wi) (okz : BlkOk X.N X.env.scope scope own)
    (hg : ∀ (s : Shared) (H : Hp) (C : Addr) (cl : List (Str × Addr)) (fp : List Addr), PG (X.blk s H scope (compEnvC scope cl C X.env) fp) tg g) (ht : ∀ (s : Shared) (H : Hp) (C : Addr) (cl : List (Str × Addr)) (fp : List Addr), PTs (X.blk s H scope (compEnvC scope cl C X.env) fp) ifs tt)
    (he : ∀ (s : Shared) (H : Hp) (C : Addr) (cl : List (Str × Addr)) (fp : List Addr), Un X.fs X.ex X.H_0 H X.s_0.heap s.heap → (∀ b ∈ fp, b ∈ X.ex ∨ X.s_0.heap.objs.size ≤ b) → PE (X.blk s H scope (compEnvC scope cl C X.env) fp) elt te) (hs : ∀ x, foldedSetIterable iter X.env x = pure x := by intro _; rfl) :
    PE X (.ListComp elt [⟨tg, iter, ifs, 0⟩] scope pos) (tLc wi g tt te (own.map (·.2))) := by
  refine ⟨fun pins s σ H Q I h => ?_⟩
  rw [eval_ListComp]
  refine lc_coreU hc hN I hi okz hg ht he hs h fun D C s' m H' I' q hnz f => ⟨m, hnz, fun h'' sb => ?_⟩
  obtain ⟨f0z, f1z, f2z, f3z, f4z, f5z⟩ := f
  exact ⟨.ref D, H', I'.turned (t' := s'.toks) (fun b o hb e => (sb.2 b hb).trans e) f0z f1z f3z f4z f5z, rfl, q⟩
end
/-- two stretches of what is let alone, the later one's frames younger -/
theorem un_link {fs fs' ex' : List Addr} {H H1 H2 : Hp} {h h1 h2 : Heap} (a : Un fs [] H H1 h h1) (b : Un fs' ex' H1 H2 h1 h2) (hf : ∀ c o, h.get? c = some o → c ∈ fs' → c ∈ fs) (hx : ∀ c o, h.get? c = some o → c ∉ ex') : Un fs [] H H2 h h2 where
  keep := fun c ob q n hc _ => b.keep c ob (a.keep c ob q n hc (by simp)) (a.free c ob q n (by simp)) (fun z => hc (hf c ob q z)) (hx c ob q)
  slot := fun c ob q n hc _ => by
    obtain ⟨sl, e1⟩ := a.slot c ob q n hc (by simp)
    obtain ⟨sl', e2⟩ := b.any e1 (a.free c ob q n (by simp)) (hx c ob q)
    exact ⟨sl', e2⟩
  free := fun c ob q n _ => by
    obtain ⟨o', e1⟩ := a.there c ob q (by simp)
    exact b.free c o' e1 (a.free c ob q n (by simp)) (hx c ob q)
  there := fun c ob q _ => by
    obtain ⟨o', e1⟩ := a.there c ob q (by simp)
    exact b.there c o' e1 (hx c ob q)
  tups := fun c xs q => b.tups c xs (a.tups c xs q)
  frzs := fun c ob xs q => b.frzs c ob xs (a.frzs c ob xs q)
  tbls := fun c ps q => by
    obtain ⟨m1, e1⟩ := a.tbls c ps q
    obtain ⟨m2, e2⟩ := b.tbls c _ e1
    exact ⟨m1 ++ m2, by rw [e2, Array.append_assoc]⟩
/-- a lambda's object at f, its code object at c -/
def LamO (f : Addr) (q : Str) (params : Arguments) (body : Expr) (scope : Scope) (cl : List (Str × Addr)) (c : Addr) : HO := .ext fun h => ∃ pm ctv : Value, h.get? f = some (PySem.W.kla_obj "<lambda>" q params body scope cl pm c ctv)
theorem lamO_tbl {f : Addr} {q : Str} {params : Arguments} {body : Expr} {scope : Scope} {cl : List (Str × Addr)} {c : Addr} {ps : Array Value} : LamO f q params body scope cl c ≠ .tbl ps := fun z => by
  unfold LamO at z; cases z
theorem lamO_ok {P : Program} {w : World} {H : Hp} {h : Heap} {f : Addr} {q : Str} {params : Arguments} {body : Expr} {scope : Scope} {cl : List (Str × Addr)} {c : Addr} {pm ctv : Value} (e : h.get? f = some (PySem.W.kla_obj "<lambda>" q params body scope cl pm c ctv)) : ObjOk P w H h f (LamO f q params body scope cl c) :=
  ⟨⟨pm, ctv, e⟩, ⟨_, e⟩, fun h1 h2 ⟨a, b, z⟩ k => ⟨a, b, k _ z⟩⟩
theorem lamO_at {P : Program} {w : World} {H : Hp} {h : Heap} {f : Addr} {q : Str} {params : Arguments} {body : Expr} {scope : Scope} {cl : List (Str × Addr)} {c : Addr} (hok : HOk P w H h) (e : H f = some (LamO f q params body scope cl c)) : ∃ pm ctv : Value, h.get? f = some (PySem.W.kla_obj "<lambda>" q params body scope cl pm c ctv) := by
  have x : ObjOk P w H h f (.ext fun h => ∃ pm ctv : Value, h.get? f = some (PySem.W.kla_obj "<lambda>" q params body scope cl pm c ctv)) := hok f _ e
  exact x.1
section
variable {X : Cx} {pins : List (Addr × Obj)} {σ : L2.St} {H : Hp} {s : Shared}
/-- what the making of a lambda tells -/
def tLamO (H0 : Hp) (T : List (Addr × Str)) (q : Str) (params : Arguments) (body : Expr) (scope : Scope) (cl : List (Str × Addr)) : TE := fun _ H Q => Tabs T H ∧ ∀ (f c : Addr) (H1 : Hp), ExtN H H1 → (∀ b, H1 b = none → H b = none) → Tabs T H1 → H1 f = none → H1 c = some (CodeO c q) → (∀ ps, H0 c ≠ some (.tbl ps)) → Q (.ref f) (upd H1 f (LamO f q params body scope cl c))
theorem pe_lamO {T : List (Addr × Str)} {c P : Addr} {params : Arguments} {body : Expr} {scope : Scope} {pos : Pos} (TB : TabB X.base X.mg c P) (hcode : X.env.code = .ref c)
    (hmz : (P, X.env.qual ++ "<lambda>") ∈ T) (hu : ∀ p ∈ T, p.1 = P → p.2 = X.env.qual ++ "<lambda>") (hdef : defaultsOf params X.env = ([], [])) (L : LamS X.env.scope scope) :
    PE X (.Lambda params body scope pos) (tLamO X.H_0 T (X.env.qual ++ "<lambda>") params body scope (cloFrom X.env.cells scope.names [])) := by
  refine ⟨fun pins s σ H Q I ⟨hT, hQ⟩ => ?_⟩
  obtain ⟨ps, hP, ht, ha⟩ := hT _ hmz
  refine PySem.W.kla_eval hdef ?_
  have bP : s.heap.BuiltinsAt X.mg P := TB.bm.keeps I.bk
  have hP' : s.heap.get? P = some { cls := .none, data := .fields ps } := I.hok P _ hP
  have hclo := closure_ok (L.has I.ok)
  cases hc : codeAmong pos ps.toList with
  | none =>
    refine PySem.W.kla_makeFunction (mg := X.mg) (c := c) (P := P) (ps := ps) hclo I.ok.glob (I.mod.glob.keeps I.bk) hcode (TB.code.keeps I.bk) hP' ht hc TB.gP bP fun c' ctv h' tk hxz hge hltz hrec htb => ?_
    obtain ⟨c2, oc, vs, t, e2, hoc, hd, hv⟩ := hrec
    cases e2
    have nCz : H c' = none := I.hok.fresh hge
    have I1 := inv_table (t' := tk) (more := #[rawInt pos.line, rawInt pos.col, .ref c']) (h' := h') I hP (fun b o hb e => hxz b o hb e) htb hge ⟨oc, vs, t, hoc, hd, hv⟩
    have hE : ExtN H (upd (upd H P (.tbl (ps ++ #[rawInt pos.line, rawInt pos.col, .ref c']))) c' (CodeO c' (X.env.qual ++ "<lambda>"))) := fun b o e n => by
      rw [upd_ne (ne_of_none e nCz), upd_ne (fun z => n ps (Option.some.inj (e.symm.trans (by rw [z]; exact hP))))]
      exact e
    have eL : (ps ++ #[rawInt pos.line, rawInt pos.col, .ref c']).toList = ps.toList ++ [rawInt pos.line, rawInt pos.col, .ref c'] := by simp
    generalize hH1 : upd (upd H P (.tbl (ps ++ #[rawInt pos.line, rawInt pos.col, .ref c']))) c' (CodeO c' (X.env.qual ++ "<lambda>")) = H1 at I1 hE
    have nF : H1 h'.objs.size = none := I1.hok.fresh (Nat.le_refl _)
    have I2 := I1.laid (t' := tk) (a := h'.objs.size) (o := LamO h'.objs.size (X.env.qual ++ "<lambda>") params body scope (cloFrom X.env.cells scope.names []) c') (h' := h'.push (PySem.W.kla_obj "<lambda>" (X.env.qual ++ "<lambda>") params body scope (cloFrom X.env.cells scope.names []) ((X.mg "__name__").getD .none) c' ctv)) (fun b o e => Heap.get?_push_of_some _ e) (Nat.le_refl _) (lamO_ok (Heap.get?_push_size _ rfl))
    refine ⟨V.ref h'.objs.size, _, I2, rfl, hQ h'.objs.size c' H1 hE (fun b e => ?_) (fun p hp => ?_) nF (by rw [← hH1]; exact upd_same) (fun ps z => by
      obtain ⟨m, e⟩ := I.base.tbls c' ps z
      rw [nCz] at e; cases e)⟩
    · rw [← hH1] at e
      by_cases hb : b = c'
      · rw [hb, upd_same] at e; cases e
      · rw [upd_ne hb] at e
        by_cases hb2 : b = P
        · rw [hb2, upd_same] at e; cases e
        · rw [upd_ne hb2] at e; exact e
    · by_cases hb : p.1 = P
      · rw [hu p hp hb, hb]
        refine ⟨_, by rw [← hH1, upd_ne (ne_of_none hP nCz), upd_same], by rw [eL]; exact PySem.TriplesOk_snoc _ _ _ _ ht, fun p' cv hcv => ?_⟩
        rw [eL] at hcv
        rcases among_app _ ht hcv with z | z
        · obtain ⟨c0, e1, e2⟩ := ha p' cv z
          exact ⟨c0, e1, hE _ _ e2 codeO_ne⟩
        · exact ⟨c', z, by rw [← hH1]; exact upd_same⟩
      · obtain ⟨ps', a1, a2, a3⟩ := hT p hp
        refine ⟨ps', by rw [← hH1, upd_ne (ne_of_none a1 nCz), upd_ne hb]; exact a1, a2, fun p' cv hcv => ?_⟩
        obtain ⟨c0, e1, e2⟩ := a3 p' cv hcv
        exact ⟨c0, e1, hE _ _ e2 codeO_ne⟩
  | some cv =>
    obtain ⟨c', e, hco⟩ := ha pos cv hc
    subst e
    refine PySem.W.kla_makeFunctionHit (mg := X.mg) (c := c) (P := P) (ps := ps) hclo I.ok.glob (I.mod.glob.keeps I.bk) hcode (TB.code.keeps I.bk) hP' ht hc bP fun ctv h' tk hxz hsz => ?_
    have I1 : Inv X pins σ H { s with heap := h', toks := tk } := I.kept fun b o e => hxz b o e
    have I2 := I1.laid (t' := tk) (a := h'.objs.size) (o := LamO h'.objs.size (X.env.qual ++ "<lambda>") params body scope (cloFrom X.env.cells scope.names []) c') (h' := h'.push (PySem.W.kla_obj "<lambda>" (X.env.qual ++ "<lambda>") params body scope (cloFrom X.env.cells scope.names []) ((X.mg "__name__").getD .none) c' ctv)) (fun b o e => Heap.get?_push_of_some _ e) (Nat.le_refl _) (lamO_ok (Heap.get?_push_size _ rfl))
    exact ⟨V.ref h'.objs.size, _, I2, rfl, hQ h'.objs.size c' H (ExtN.refl H) (fun _ e => e) hT (I1.hok.fresh (Nat.le_refl _)) hco (fun ps z => by
      obtain ⟨m, e⟩ := I.base.tbls c' ps z
      rw [hco] at e; exact codeO_ne _ (Option.some.inj e))⟩
/-- x(), in a def called (by a def) by the def that made the lambda -/
theorem pe_act2 {CXg : CXT} {Eg : XK} {Ng : List Str} {qg : Str} {sg : Scope} {g f c' : Addr} {cdg : Value} {YA : Around} {Yst : List Env} {s2 : Shared} {H2 : Hp} {params : Arguments} {body : Expr} {scope : Scope} {k i : Nat} {a : Str} {pn : List (Addr × Obj)} {xe : Value → Shared → Prop} {W : WX} {E : XK} {tb : TE} {p1 p2 : Pos}
    (I : Inv X pins σ H s) (L : LamS X.env.scope scope) (lk : Un (frs X.stack) [] H H2 s.heap s2.heap) (hst : ∀ c o, s.heap.get? c = some o → c ∈ frs Yst → c ∈ frs X.stack)
    (hbind : ∀ pm ctv : Value, bindArgs (PySem.W.kla_fn "<lambda>" (X.env.qual ++ "<lambda>") params body scope (cloFrom X.env.cells scope.names []) pm (.ref c') ctv) ⟨[], []⟩ = pure [])
    (tk : L2N.Takes ((cxOf CXg X.prog X.w X.K X.mg X.base Ng qg sg g cdg YA Yst s2 H2 Eg).tr pn xe) W) (hW : ∀ cls d σ' H', E cls d H' → W cls d σ' H') (hr : Room (k + 1) (YA.deeper (envOfC qg sg s2.heap.objs.size g cdg)))
    (hbody : ∀ (A : Around) (outer : List Env) (s : Shared) (H : Hp), Room k (A.deeper (lamEnv X scope s.heap.objs.size f c')) → PE (LamN.lamCxN X A outer s H E scope f c') body tb)
    (hN : Ng[i]? = some a) (hv : Vis sg a) (hd : (a == ("__debug__" : Str)) = false := by decide) (hcd : (a == ("__classdict__" : Str)) = false := by decide) :
    PE ((cxOf CXg X.prog X.w X.K X.mg X.base Ng qg sg g cdg YA Yst s2 H2 Eg).tr pn xe) (.Call (.Name a p1) [] [] p2)
      (fun σZ HZ Q => σZ[i]? = some (some (.ref f)) ∧ HZ c' = some (CodeO c' (X.env.qual ++ "<lambda>")) ∧ (HZ f = some (LamO f (X.env.qual ++ "<lambda>") params body scope (cloFrom X.env.cells scope.names []) c') ∧ tb σ HZ Q)) := by
  refine ⟨fun pinsZ sZ σZ HZ Q IZ h => ?_⟩
  obtain ⟨hs, hc, hL, ht⟩ := h
  refine wpAny_Call_Name_kw (thn ((pe_var (pos := p1) (i := i) hN hv hd hcd).run pinsZ sZ σZ HZ (fun v H1z => v = .ref f ∧ H1z = HZ) IZ ⟨.ref f, hs, rfl, rfl⟩) fun u t1 ⟨v, H1z, J1, r1z, q1z⟩ => ?_)
  obtain ⟨ev, eH⟩ := q1z
  subst ev
  rw [eH] at J1
  obtain rfl : u = Value.ref f := r1z
  obtain ⟨pm, ctv, of1⟩ := lamO_at J1.hok hL
  refine PySem.W.callWith_F0 ⟨_, _, _, _, of1⟩ ?_
  have un0 : Un (frs Yst) [] H2 HZ s2.heap t1.heap := J1.base
  have un : Un (frs X.stack) [] H HZ s.heap t1.heap := un_link lk un0 hst fun _ _ _ => by simp
  obtain ⟨⟨oc, vs, t, hoc, hdc, hvc⟩, _, _⟩ := J1.hok c' _ hc
  have rc : codeAny (model X.prog X.w) (YA.deeper (envOfC qg sg s2.heap.objs.size g cdg)) (.call (.ref f) ⟨[], []⟩) (CR (L2N.CX X.prog X.w) (envOfC qg sg s2.heap.objs.size g cdg :: Yst) X.prog X.w HZ t1 Q E) t1 := by
    refine PySem.W.kla_callFunE hr.depth of1 rfl L.co L.gen rfl ⟨c', oc, vs, t, rfl, hoc, hdc, hvc⟩ ?_
    rw [hbind]
    refine wpAny_pure (wpAny_newFunctionEnv (fun y hy => (L.own y hy).2) (fun y hy => absurd hy (by simp)) (fun h₁ hns hsb => ⟨J1.nolimit.fresh _ hsb, ?_⟩) L.kind)
    show codeAny _ _ (.expr body (lamEnv X scope t1.heap.objs.size f c')) _ _
    have kpz : ∀ b o, t1.heap.get? b = some o → h₁.get? b = some o := fun b o e => hsb.extBut b o (Nat.ne_of_lt (Heap.lt_size e)) (Heap.get?_push_of_some _ e)
    have Jz : Inv (LamN.lamCxN X (YA.deeper (envOfC qg sg s2.heap.objs.size g cdg)) (envOfC qg sg s2.heap.objs.size g cdg :: Yst) t1 HZ E scope f c') [] σ HZ { t1 with heap := h₁, toks := t1.toks + ([] : List (Str × Value)).length } :=
      (lam_start2 (E := E) (f := f) (c' := c') I L J1.env0 hr.hd un hns kpz).toTry _
    refine PySem.W.kla_codeExpr (wpAny_mono ((hbody _ _ t1 HZ (hr.deeper _)).run [] _ _ HZ Q Jz ht) (fun v s' hqz => ?_) fun e s' hqz => hqz)
    obtain ⟨w', H', Jy, rvz, q⟩ := hqz
    exact ⟨w', H', Jy.os, Jy.bare, Jy.base, Jy.hok, rvz, q⟩
  have hxz : Passes (L2N.CX X.prog X.w) ((cxOf CXg X.prog X.w X.K X.mg X.base Ng qg sg g cdg YA Yst s2 H2 Eg).tr pn xe) E := L2N.passes_call tk hW
  refine wpAny_call (codeAny_mono rc fun r s' hqz => ?_)
  cases r with
  | error e => exact hxz pinsZ σZ HZ t1 e s' J1 hqz
  | ok fl =>
    cases fl with
    | ret u => exact J1.after hqz
    | next => exact False.elim hqz
    | brk => exact False.elim hqz
    | cont => exact False.elim hqz
end
end Rf

set_option maxRecDepth 100000
set_option maxHeartbeats 4000000
/-! # lambdas kept in a list: made, put there -/
namespace Rf
open PySem PySem.Spec PyProof.Rows L2 LamX
section
variable {B : Bs} {S : Sit} {ρ : Rho} {σ : St} {H G : Hp}
/-- an object that may change, though it is neither list nor dict, is known from now on -/
theorem EnvOk.know (E : EnvOk B S ρ σ H G) {p : Addr} {o : HO} (hp : H p = some o) (hg : G p = none) (h0 : S.W p) (nl : ∀ xs, o ≠ .lst xs) (nd : ∀ ks, o ≠ dkOf ks) (nt : ∀ ps, o ≠ .tbl ps) (hz : szO o) : EnvOk B S ρ σ H (upd G p o) where
  sub := fun b u e => by
    by_cases hb : b = p
    · subst hb; rw [upd_same] at e; rw [hp]; exact e
    · rw [upd_ne hb] at e; exact E.sub b u e
  nt := fun b ps e => by
    by_cases hb : b = p
    · subst hb; rw [upd_same] at e; exact nt ps (Option.some.inj e)
    · rw [upd_ne hb] at e; exact E.nt b ps e
  sz := fun b u e => by
    by_cases hb : b = p
    · subst hb; rw [upd_same] at e; cases e; exact hz
    · rw [upd_ne hb] at e; exact E.sz b u e
  j := E.j
  keep := E.keep
  there := E.there
  gsub := fun b o e => by
    have q := E.gsub b o e
    rw [upd_ne (ne_of_none q hg)]; exact q
  gnew := fun b o e => by
    by_cases hb : b = p
    · rw [hb]; exact .inr h0
    · rw [upd_ne hb] at e; exact E.gnew b o e
  len := E.len
  dat := fun i d e => by
    obtain ⟨v, h1, h2⟩ := E.dat i d e
    exact ⟨v, h1, Dp.up (fun b o q => by rw [upd_ne (ne_of_none q hg)]; exact q) h2⟩
  dct := fun i ks e => by
    obtain ⟨a, h1, h2, h3, h4⟩ := E.dct i ks e
    refine ⟨a, h1, h2, ?_, h4⟩
    rw [upd_ne (fun z => by rw [z, hp] at h2; exact nd _ (Option.some.inj h2))]; exact h3
  raw := E.raw
  rel := fun i k d e => let ⟨v, h1, h2⟩ := E.rel i k d e; ⟨v, h1, B.rs (fun b o q => by rw [upd_ne (ne_of_none q hg)]; exact q) h2⟩
  dnq := E.dnq
  held := fun i l e => by
    obtain ⟨a, ws, h1, h2, h3, h4, h5⟩ := E.held i l e
    refine ⟨a, ws, h1, h2, ?_, DpAll.up (fun b o q => by rw [upd_ne (ne_of_none q hg)]; exact q) h4, h5⟩
    rw [upd_ne]
    · exact h3
    · intro z; rw [z, hp] at h2; exact nl _ (Option.some.inj h2)
  ref := E.ref
  sep := E.sep
  isref := E.isref
/-- a code object that stays: known, or older than the def and out of its reach -/
def K1 (S : Sit) (G : Hp) (c : Addr) (q : Str) : Prop := G c = some (CodeO c q) ∨ (S.H0 c = some (CodeO c q) ∧ ¬ S.W c)
theorem codeO_lst {c : Addr} {q : Str} (xs : List V) : CodeO c q ≠ .lst xs := fun z => by unfold CodeO at z; cases z
theorem codeO_dk {c : Addr} {q : Str} (ks : List (List Int)) : CodeO c q ≠ dkOf ks := fun z => by unfold CodeO dkOf at z; cases z
theorem K1.up {c : Addr} {q : Str} {G G' : Hp} (h : K1 S G c q) (le : Le G G') : K1 S G' c q := h.imp (le _ _) id
theorem K1.at {c : Addr} {q : Str} (h : K1 S G c q) (E : EnvOk B S ρ σ H G) : H c = some (CodeO c q) := by
  rcases h with h | ⟨h, n⟩
  · exact E.sub c _ h
  · exact E.keep c _ h n codeO_ne
theorem EnvOk.code (E : EnvOk B S ρ σ H G) {c : Addr} {q : Str} (h : H c = some (CodeO c q)) (h0 : ∀ ps, S.H0 c ≠ some (.tbl ps)) : ∃ G', EnvOk B S ρ σ H G' ∧ Le G G' ∧ K1 S G' c q ∧ ∀ b, b ≠ c → G' b = G b := by
  by_cases hw : S.W c
  · cases hg : G c with
    | some o =>
      have e := E.sub c o hg
      rw [h] at e; cases e
      exact ⟨G, E, Le.refl, .inl hg, fun _ _ => rfl⟩
    | none => exact ⟨_, E.know h hg hw codeO_lst codeO_dk codeO_ne trivial, Le.upd hg, .inl upd_same, fun b hb => upd_ne hb⟩
  · cases hs : S.H0 c with
    | none => exact absurd (S.wn c hs) hw
    | some o =>
      have e := E.keep c o hs hw fun ps z => h0 ps (by rw [hs, z])
      rw [h] at e; cases e
      exact ⟨G, E, Le.refl, .inr ⟨hs, hw⟩, fun _ _ => rfl⟩
/-- a lambda of the def: what it is, what it reads as -/
structure Lam where
  params : Arguments
  body : Expr
  scope : Scope
  f : Rho → O Rf.D
def ClAt (X : Cx) (S : Sit) (G : Hp) (l : Lam) (v : V) : Prop := ∃ f c, v = .ref f ∧ G f = some (LamO f (X.env.qual ++ "<lambda>") l.params l.body l.scope (cloFrom X.env.cells l.scope.names []) c) ∧ K1 S G c (X.env.qual ++ "<lambda>")
theorem ClAt.up {X : Cx} {l : Lam} {v : V} {G G' : Hp} (le : Le G G') (h : ClAt X S G l v) : ClAt X S G' l v :=
  let ⟨f, c, h1, h2, h3⟩ := h
  ⟨f, c, h1, le _ _ h2, h3.up le⟩
theorem cls_up {X : Cx} {G G' : Hp} (le : Le G G') : ∀ {ls : List Lam} {vs : List V}, Paired (ClAt X S G) ls vs → Paired (ClAt X S G') ls vs
  | _, _, .nil => .nil
  | _, _, .cons a b => .cons (a.up le) (cls_up le b)
theorem paired_snoc {α β : Type} {R : α → β → Prop} {a : α} {b : β} (h : R a b) : ∀ {xs : List α} {ys : List β}, Paired R xs ys → Paired R (xs ++ [a]) (ys ++ [b])
  | _, _, .nil => .cons h .nil
  | _, _, .cons q r => .cons q (paired_snoc h r)
theorem paired_get {α β : Type} {R : α → β → Prop} : ∀ {xs : List α} {ys : List β} {i : Nat} {y : β}, Paired R xs ys → ys[i]? = some y → ∃ x, xs[i]? = some x ∧ R x y
  | _, _, _, _, .nil, e => by simp at e
  | _, _, 0, _, .cons q _, e => by cases e; exact ⟨_, rfl, q⟩
  | _, _, i + 1, _, .cons _ r, e => by
    obtain ⟨x, h1, h2⟩ := paired_get (i := i) r (by simpa using e)
    exact ⟨x, by simpa using h1, h2⟩
end
/-- a def's statements, from its entry on -/
def tSt0 (H0 : Hp) (B : Bs) (Wx : WX) (f : Rho → OS) : TS := fun D σ H => ∃ S ρ G, S.H0 = H0 ∧ EnvOk B S ρ σ H G ∧ PostS B S Wx G (f ρ) D
/-- the list at slot i is being filled (the last one first) -/
def tStB (X : Cx) (B : Bs) (Wx : WX) (i : Nat) (ls : List Lam) (f : Rho → OS) : TS := fun D σ H => ∃ S ρ G p vs, S.H0 = X.H_0 ∧ EnvOk B S ρ σ H G ∧ ρ[i]? = some none ∧ σ[i]? = some (some (.ref p)) ∧ H p = some (.lst vs) ∧ G p = none ∧ S.W p ∧ Loose ρ σ p ∧ vs.length ≤ 1000 ∧ Paired (ClAt X S G) ls.reverse vs ∧ PostS B S Wx G (f ρ) D
/-- the list at slot i is whole -/
def tStL (X : Cx) (B : Bs) (Wx : WX) (i : Nat) (ls : List Lam) (f : Rho → OS) : TS := fun D σ H => ∃ S ρ G p vs, EnvOk B S ρ σ H G ∧ σ[i]? = some (some (.ref p)) ∧ G p = some (.lst vs) ∧ vs.length ≤ 1000 ∧ Paired (ClAt X S G) ls vs ∧ PostS B S Wx G (f ρ) D
def tWv (X : Cx) (B : Bs) (Wx : WX) (i : Nat) (ls : List Lam) (f : Rho → O Rf.D) : TE := fun σ H Q => ∃ S ρ G p vs, EnvOk B S ρ σ H G ∧ σ[i]? = some (some (.ref p)) ∧ G p = some (.lst vs) ∧ vs.length ≤ 1000 ∧ Paired (ClAt X S G) ls vs ∧ Post B S Wx σ G (f ρ) (fun d _ H' G' => ∀ v, Dp B.K G' v d → Q v H')
theorem tabs_of {B : Bs} {T : List (Addr × Str)} {cl : Str → Option Addr} {cm : Addr} {H : Hp} (hB : B = Be B.K T cl cm) (j : B.J H) : Tabs T H := by rw [hB] at j; exact j
theorem of_tabs {B : Bs} {T : List (Addr × Str)} {cl : Str → Option Addr} {cm : Addr} {H : Hp} (hB : B = Be B.K T cl cm) (j : Tabs T H) : B.J H := by rw [hB]; exact j
section
variable {X : Cx} {B : Bs} {Wx : WX} {T : List (Addr × Str)} {cl : Str → Option Addr} {cm : Addr}
theorem le1000 {n : Nat} (h : n ≤ 1000) : n ≤ sizeLine := by rw [line_eq]; omega
/-- what a lambda's making comes to -/
theorem made {S : Sit} {ρ : Rho} {σ : L2.St} {H H1 G : Hp} {f c : Addr} {l : Lam} (hB : B = Be B.K T cl cm) (h0 : S.H0 = X.H_0) (E : EnvOk B S ρ σ H G) (e1 : ExtN H H1) (nn : ∀ b, H1 b = none → H b = none) (T1 : Tabs T H1) (hf : H1 f = none) (hc : H1 c = some (CodeO c (X.env.qual ++ "<lambda>"))) (ht : ∀ ps, X.H_0 c ≠ some (.tbl ps)) :
    ∃ G', EnvOk B S ρ σ (upd H1 f (LamO f (X.env.qual ++ "<lambda>") l.params l.body l.scope (cloFrom X.env.cells l.scope.names []) c)) G' ∧ Le G G' ∧ ClAt X S G' l (.ref f) ∧ ∀ b, b ≠ f → b ≠ c → G' b = G b := by
  have E1 := E.ext ⟨e1, nn, of_tabs hB T1⟩
  have E2 := E1.new (o := LamO f (X.env.qual ++ "<lambda>") l.params l.body l.scope (cloFrom X.env.cells l.scope.names []) c) hf (fun _ => lamO_tbl) trivial
  obtain ⟨G3, E3, le3, k3, n3⟩ := E2.code (c := c) (q := X.env.qual ++ "<lambda>") (by rw [upd_ne (ne_of_none hc hf)]; exact hc) (fun ps => by rw [h0]; exact ht ps)
  exact ⟨G3, E3, (Le.upd (E1.gnone hf)).trans le3, ⟨f, c, rfl, le3 _ _ upd_same, k3⟩, fun b h1 h2 => by rw [n3 b h2, upd_ne h1]⟩
def sMk (i : Nat) (f : Rho → OS) : Rho → OS := fun ρ => match ρ[i]? with
  | some none => f ρ
  | _ => .no
/-- x = [lambda: ..] -/
theorem q_mk (i : Nat) {x : Str} {c P : Addr} {params : Arguments} {body : Expr} {scope : Scope} {fl : Rho → O Rf.D} {px lp lpos pos : Pos} {rest : List Stmt} {f : Rho → OS} (hB : B = Be B.K T cl cm) (TB : TabB X.base X.mg c P) (hcode : X.env.code = .ref c) (hq : X.env.qual ++ "<lambda>" = X.env.qual ++ "<lambda>")
    (hmT : (P, X.env.qual ++ "<lambda>") ∈ T) (hu : ∀ p ∈ T, p.1 = P → p.2 = X.env.qual ++ "<lambda>") (hN : X.N.Nodup) (hr : PSs X rest (tStB X B Wx i [⟨params, body, scope, fl⟩] f))
    (hi : X.N[i]? = some x := by rfl) (hx : X.env.scope.names.lookup x = some .local := by rfl) (L : lamSB X.env.scope scope = true := by kernel_rfl) (hdef : defaultsOf params X.env = ([], []) := by rfl)
    (hs : starEach [.Lambda params body scope lpos] X.env = (false, eval (.Lambda params body scope lpos) X.env) :: starEach [] X.env := by rfl) (hsw : swapsWith (.List [.Lambda params body scope lpos] lp) (some (.Name x px)) pos.line X.env = pure false := by rfl) :
    PSs X (.Assign [.Name x px] (.List [.Lambda params body scope lpos] lp) pos :: rest) (tSt0 X.H_0 B Wx (sMk i f)) :=
  (pss_cons (ps_set hN hi (.inl hx) (pe_lst (pa_cons (pe_lamO TB hcode hmT hu hdef (lamS_by L)) pa_nil hs)) hsw (.inr hx)) hr).imp' fun D σ H ⟨S, ρ, G, h0, E, P⟩ => by
    unfold sMk at P
    split at P
    · rename_i hρ
      refine ⟨tabs_of hB E.j, fun f0 c0 H1 e1 nn T1 hf hc ht => ⟨le1000 (by simp), fun p hp => ?_⟩⟩
      obtain ⟨G3, E3, le3, k3, n3⟩ := made (l := ⟨params, body, scope, fl⟩) hB h0 E e1 nn T1 hf hc ht
      obtain ⟨E4, hp4, hg4, hw4, lo4⟩ := E3.newl (vs := [.ref f0]) hp
      have hl : i < σ.length := by rw [← E.len]; exact (List.getElem?_eq_some_iff.mp hρ).1
      have E5 := E4.drop (i := i) (x := some (.ref p)) fun l z => by rw [hρ] at z; cases z
      have eρ : ρ.set i none = ρ := by
        apply List.ext_getElem?
        intro j
        by_cases q : i = j
        · subst q
          rw [List.getElem?_set_self (by rw [E.len]; exact hl), hρ]
        · rw [List.getElem?_set_ne q]
      rw [eρ] at E5
      refine ⟨S, ρ, G3, p, [.ref f0], h0, E5, hρ, List.getElem?_set_self hl, hp4, hg4, hw4, fun j m hj z => ?_, by simp, .cons k3 .nil, P.le le3⟩
      by_cases q : i = j
      · subst q
        rcases hj with hj | hj
        · rw [hρ] at hj; cases hj
        · rw [hρ] at hj; cases hj
      · rw [List.getElem?_set_ne q] at z
        exact lo4 j m hj z
    · exact False.elim P
/-- x.append(lambda: ..) -/
theorem q_ap (i : Nat) {x : Str} {c P : Addr} {params : Arguments} {body : Expr} {scope : Scope} {fl : Rho → O Rf.D} {px apos cpos lpos pos : Pos} {rest : List Stmt} {ls : List Lam} {f : Rho → OS} (hB : B = Be B.K T cl cm) (TB : TabB X.base X.mg c P) (hcode : X.env.code = .ref c)
    (hmT : (P, X.env.qual ++ "<lambda>") ∈ T) (hu : ∀ p ∈ T, p.1 = P → p.2 = X.env.qual ++ "<lambda>") (hlen : ls.length < 1000) (hr : PSs X rest (tStB X B Wx i (⟨params, body, scope, fl⟩ :: ls) f))
    (hN : X.N[i]? = some x := by rfl) (hx : X.env.scope.names.lookup x = some .local := by rfl) (L : lamSB X.env.scope scope = true := by kernel_rfl) (hdef : defaultsOf params X.env = ([], []) := by rfl) (hd : (x == ("__debug__" : Str)) = false := by decide) (hcd : (x == ("__classdict__" : Str)) = false := by decide)
    (hs : starEach [.Lambda params body scope lpos] X.env = (false, eval (.Lambda params body scope lpos) X.env) :: starEach [] X.env := by rfl)
    (hfew : ((backTo cpos (starEach [.Lambda params body scope lpos] X.env)).all (fun x => !x.1) && (backToKw cpos (keywordEach [] X.env)).all (fun x => x.1.isSome) && decide ([Expr.Lambda params body scope lpos].length + ([] : List Keyword).length + (if ([] : List Keyword).isEmpty then 0 else 1) < 30)) = true := by rfl)
    (hline : (apos.endLine == cpos.line) = true := by rfl) (hsw : swapsWith (.Call (.Attribute (.Name x px) "append" apos) [.Lambda params body scope lpos] [] cpos) none pos.line X.env = pure false := by rfl) :
    PSs X (.Expr (.Call (.Attribute (.Name x px) "append" apos) [.Lambda params body scope lpos] [] cpos) pos :: rest) (tStB X B Wx i ls f) :=
  (pss_cons (ps_expr (pe_bm PySem.F.plainAttrs_list PySem.F.slot_list_append PySem.F.type_list_append mt_append (pe_var hN (.inl hx) hd hcd) (pa_cons (pe_lamO TB hcode hmT hu hdef (lamS_by L)) pa_nil hs) (by rfl) hfew hline hs (by rfl)) hsw) hr).imp' fun D σ H ⟨S, ρ, G, p, vs, h0, E, hρ, hσ, hp, hg, hw, lo, hz, hcl, P⟩ => by
    refine ⟨.ref p, hσ, .inl ⟨rfl, vs, SqL.of hp⟩, tabs_of hB E.j, fun f0 c0 H1 e1 nn T1 hf hc ht => ?_⟩
    obtain ⟨G3, E3, le3, k3, n3⟩ := made (l := ⟨params, body, scope, fl⟩) hB h0 E e1 nn T1 hf hc ht
    have hp1 : H1 p = some (.lst vs) := e1 p _ hp fun ps z => by cases z
    have np : p ≠ f0 := ne_of_none hp1 hf
    have npc : p ≠ c0 := fun z => by
      rw [z, hc] at hp1
      exact codeO_lst _ (Option.some.inj hp1)
    have hp3 : (upd H1 f0 (LamO f0 (X.env.qual ++ "<lambda>") params body scope (cloFrom X.env.cells scope.names []) c0)) p = some (.lst vs) := by rw [upd_ne np]; exact hp1
    have hg3 : G3 p = none := by rw [n3 p np npc]; exact hg
    have el : vs.length = ls.length := by rw [← Paired.length hcl, List.length_reverse]
    refine ⟨p, vs, .ref f0, rfl, rfl, hp3, by rw [line_eq]; omega, ?_⟩
    exact ⟨S, ρ, G3, p, vs ++ [.ref f0], h0, E3.upl hp3 hg3 hw lo, hρ, hσ, upd_same, hg3, hw, lo, by rw [List.length_append]; simp; omega, by rw [List.reverse_cons]; exact paired_snoc k3 (cls_up le3 hcl), P.le le3⟩
/-- the list is whole -/
theorem q_whole {i : Nat} {rest : List Stmt} {ls : List Lam} (LS : List Lam) {f : Rho → OS} (h : PSs X rest (tStL X B Wx i LS f)) (hLS : ls.reverse = LS := by rfl) : PSs X rest (tStB X B Wx i ls f) :=
  h.imp' fun D σ H ⟨S, ρ, G, p, vs, h0, E, hρ, hσ, hp, hg, hw, lo, hz, hcl, P⟩ =>
    ⟨S, ρ, upd G p (.lst vs), p, vs, E.freeze hp hg hw lo (le1000 hz), hσ, upd_same, hz, cls_up (Le.upd hg) (by rw [← hLS]; exact hcl), P.le (Le.upd hg)⟩
def sThen (j : Nat) (fe : Rho → O Rf.D) (f : Rho → OS) : Rho → OS := fun ρ => (fe ρ).run fun d ρ1 => match bindN j d ρ1 with
  | some ρ2 => f ρ2
  | none => .no
/-- y = e, between -/
theorem q_then (j : Nat) {i : Nat} {y : Str} {e : Expr} {py pos : Pos} {rest : List Stmt} {ls : List Lam} {fe : Rho → O Rf.D} {f : Rho → OS} (hN : X.N.Nodup) (he : PE X e (tEv B Wx fe)) (hr : PSs X rest (tStL X B Wx i ls f)) (hij : j ≠ i := by decide)
    (hy : X.N[j]? = some y := by rfl) (hx : Loc X.env.scope y := by first | exact .inl rfl | exact .inr rfl) (hf : X.fn y = true ∨ X.env.scope.names.lookup y = some .local := by first | exact .inl rfl | exact .inr rfl) (hs : swapsWith e (some (.Name y py)) pos.line X.env = pure false := by rfl) :
    PSs X (.Assign [.Name y py] e pos :: rest) (tStL X B Wx i ls (sThen j fe f)) :=
  (pss_cons (ps_set hN hy hx he hs hf) hr).imp' fun D σ H ⟨S, ρ, G, p, vs, E, hσ, hg, hz, hcl, P⟩ => by
    refine ⟨S, ρ, G, E, P.run.imp fun d ρ1 H1 G1 E1 le1 q v hv => ?_⟩
    cases e : bindN j d ρ1 with
    | none => rw [e] at q; exact False.elim q
    | some ρ2 =>
      rw [e] at q
      exact ⟨S, ρ2, G1, p, vs, E1.bindN e hv, by rw [List.getElem?_set_ne hij]; exact hσ, le1 _ _ hg, hz, cls_up le1 hcl, q⟩
/-- return e, e with the words -/
theorem q_retL {i : Nat} {e : Expr} {pos : Pos} {ls : List Lam} {fa : Rho → O Rf.D} (he : PE X e (tWv X B Wx i ls fa)) : PSs X [.Return (some e) pos] (tStL X B Wx i ls (sRet fa)) :=
  (pss_one (ps_ret he)).imp' fun D σ H ⟨S, ρ, G, p, vs, E, hσ, hg, hz, hcl, P⟩ =>
    ⟨S, ρ, G, p, vs, E, hσ, hg, hz, hcl, P.run.imp fun d ρ1 H1 G1 E1 le1 q v hv => q σ H1 G1 E1 Le.refl v hv⟩
theorem g_cmpL {i : Nat} {ls : List Lam} {op : CmpOp} {a b : Expr} {pos : Pos} {fa fb : Rho → O Rf.D} (hK : X.K = B.K) (hu : X.A.units + 65 < cLine) (ha : PE X a (tWv X B Wx i ls fa)) (hb : PE X b (tEv B Wx fb)) (hm : behindInMarks op b = false := by rfl) : PE X (.Compare a [op] [b] pos) (tWv X B Wx i ls (s2 (bCmp op) fa fb)) :=
  (pe_cmpR (opD_cmp hK hu op) ha hb hm).imp' fun σ H Q ⟨S, ρ, G, p, vs, E, hσ, hg, hz, hcl, P⟩ => by
    refine ⟨S, ρ, G, p, vs, E, hσ, hg, hz, hcl, P.bind.imp fun x ρ1 H1 G1 E1 le1 q1 v hv => ?_⟩
    refine ⟨S, ρ1, G1, E1, q1.bind.imp fun y ρ2 H2 G2 E2 le2 q2 w hw => ?_⟩
    have q2 : Post B S Wx σ G2 (lift (bCmp op x y) ρ2) _ := q2
    cases e : bCmp op x y with
    | none => rw [e] at q2; exact False.elim q2
    | some z =>
      rw [e] at q2
      exact ⟨S, ρ2, σ, G2, x, y, z, E2, Dp.up le2 hv, hw, e, fun H' G' E' le u hu => q2 H' G' E' le u hu⟩
end
end Rf

set_option maxRecDepth 100000
set_option maxHeartbeats 4000000
/-! # lambdas kept in a list: the words of all -/
namespace Rf
open PySem PySem.Spec PyProof.Rows L2 LamX
/-- the def that says the word, asked from anywhere -/
structure WordD2 (B : Bs) (P : Program) (w : World) (mg : Str → Option Value) (base : Heap) (cl : Str → Option Addr) (cm : Addr) (n : Nat) (fn : Addr → (Str → Bool) → Rho → OS) : Prop where
  ex : ∃ (g : Addr) (pg : Arguments) (bg : List Stmt) (sg : Scope) (dV kV doc pm cdv ct oc : Value) (an od : Option Addr) (osl : Array (Option Value)) (Ng : List Str), mg "_law_word" = some (.ref g) ∧ PySem.W.keepIn B.K (.ref g) = true ∧
    B.K.lookup g = some ⟨oc, od, .func (PySem.W.fnOf "_law_word" "_law_word" pg bg sg dV kV doc pm an cdv ct), osl⟩ ∧ PySem.W.codeIn B.K cdv "_law_word" = true ∧ L2.Binds B.K (PySem.W.fnOf "_law_word" "_law_word" pg bg sg dV kV doc pm an cdv ct) ["call"] [] ∧
    FnScope Ng ["call"] sg ∧ Ng[0]? = some ("call" : Str) ∧ Vis sg "call" ∧ ∀ (X : Cx) (q : Str), X.K = B.K → X.mg = mg → X.prog = P → X.w = w → X.base = base → Room 3 X.A → LamN.GivesToN X Ng "_law_word" sg g cdv bg "call" q (TTw B cl cm n fn)
/-- the def that asks for all words -/
structure WordsS (st : Stmt) (scope : Scope) : Prop where
  fs : FnScope ["calls", "call"] ["calls"] (defScope st)
  ok : blkC ["calls", "call"] (defScope st) scope [("call", 1)] = true
  gl : (relS scope (defScope st)).names.lookup ("_law_word" : Str) = some .globalImplicit
  lo : (relS scope (defScope st)).names.lookup ("call" : Str) = some .local
  vi : Vis (defScope st) "calls"
structure LamGood (X : Cx) (B : Bs) (k : Nat) (l : Lam) : Prop where
  sc : LamS X.env.scope l.scope
  bd : ∀ (q : Str) (cl : List (Str × Addr)) (pm cv ctv : Value), bindArgs (PySem.W.kla_fn "<lambda>" q l.params l.body l.scope cl pm cv ctv) ⟨[], []⟩ = pure []
  bo : ∀ (A : Around) (outer : List Env) (s : Shared) (H : Hp) (E : XK) (f' c' : Addr), Room (k + 1) (A.deeper (lamEnv X l.scope s.heap.objs.size f' c')) → PE (LamN.lamCxN X A outer s H E l.scope f' c') l.body (tEv B (wishOf E) l.f)
def wordsO (kw : Str → Option Str) : List (Rho → O D) → Rho → O (List D)
  | [] => sNil
  | f :: fs => sCons (sWord kw f) (wordsO kw fs)
section
variable {X : Cx} {B : Bs} {Wx : WX} {T : List (Addr × Str)} {cl : Str → Option Addr} {cm : Addr} {n : Nat} {fn : Addr → (Str → Bool) → Rho → OS} {kw : Str → Option Str}
theorem word_read2 (hB : B = Be B.K T cl cm) (KW : KwOk cl n fn kw) {f : Rho → O D} {σ : L2.St} {H : Hp} {Q : VK} (h : tEv B Wx (sWord kw f) σ H Q) : TTw B cl cm n fn (fun E H' Q' => tEv B (wishOf E) f σ H' Q') H Q := by
  have key : ∀ B' : Bs, B' = Be B.K T cl cm → tEv B' Wx (sWord kw f) σ H Q → TTw B' cl cm n fn (fun E H' Q' => tEv B' (wishOf E) f σ H' Q') H Q := fun B' e h => by
    subst e
    have q := word_read KW h
    exact q.2 H (ExtN.refl H) (fun _ e => e) q.1
  exact key B hB h
/-- a word is asked for, in the block of the def that was handed the list -/
theorem pe_wordV {pins : List (Addr × Obj)} {σ : L2.St} {H : Hp} {s : Shared} {k : Nat} {stW : Stmt} {scope : Scope} {gW : Addr} {cdW : Value} {s3 : Shared} {H3 : Hp} {C : Addr} {cll : List (Str × Addr)} {fp : List Addr} {p p2 pos : Pos} (I : Inv X pins σ H s) (hK : X.K = B.K) (WS : WordsS stW scope)
    (W2 : WordD2 B X.prog X.w X.mg X.base cl cm n fn) (hr : Room (k + 3) (X.A.deeper (envOfC "_law_words" (defScope stW) s.heap.objs.size gW cdW)))
    (lk : Un (frs X.stack) [] H H3 s.heap s3.heap) (hfp : ∀ b ∈ fp, s.heap.objs.size ≤ b) :
    PE ((cxOf C8.CX0 X.prog X.w X.K X.mg X.base ["calls", "call"] "_law_words" (defScope stW) gW cdW X.A X.stack s H C8.E0).blk s3 H3 scope (compEnvC scope cll C (cxOf C8.CX0 X.prog X.w X.K X.mg X.base ["calls", "call"] "_law_words" (defScope stW) gW cdW X.A X.stack s H C8.E0).env) fp)
      (.Call (.Name "_law_word" p) [.Name "call" p2] [] pos)
      (fun σb H2 Q => ∃ l f c, LamGood X B k l ∧ σb[1]? = some (some (.ref f)) ∧ H2 f = some (LamO f (X.env.qual ++ "<lambda>") l.params l.body l.scope (cloFrom X.env.cells l.scope.names []) c) ∧ H2 c = some (CodeO c (X.env.qual ++ "<lambda>")) ∧
        TTw B cl cm n fn (fun E HZ Q' => tEv B (wishOf E) l.f σ HZ Q') H2 Q) := by
  generalize hY : (cxOf C8.CX0 X.prog X.w X.K X.mg X.base ["calls", "call"] "_law_words" (defScope stW) gW cdW X.A X.stack s H C8.E0).blk s3 H3 scope (compEnvC scope cll C (cxOf C8.CX0 X.prog X.w X.K X.mg X.base ["calls", "call"] "_law_words" (defScope stW) gW cdW X.A X.stack s H C8.E0).env) fp = Y
  have yK : Y.K = X.K := by rw [← hY]; rfl
  have yst : Y.stack = envOfC "_law_words" (defScope stW) s.heap.objs.size gW cdW :: X.stack := by rw [← hY]; rfl
  have yA : Y.A = X.A.deeper (envOfC "_law_words" (defScope stW) s.heap.objs.size gW cdW) := by rw [← hY]; rfl
  have hst : ∀ c o, s.heap.get? c = some o → c ∈ frs Y.stack → c ∈ frs X.stack := fun c o e hc => by
    rw [yst] at hc
    unfold frs at hc
    rw [List.filterMap_cons] at hc
    rcases List.mem_cons.mp (show c ∈ s.heap.objs.size :: List.filterMap (·.frame) X.stack from hc) with z | z
    · have h1 := Heap.lt_size e
      rw [z] at h1
      exact absurd h1 (Nat.lt_irrefl _)
    · exact z
  refine ⟨fun pinsY sY σY HY Q IY ⟨l, f, c, Lg, hs, hL, hc, hT⟩ => ?_⟩
  obtain ⟨g, pg, bg, sg, dV, kV, doc, pm, cdv, ct, oc, an, od, osl, Ng, h1, h2, h3, h4, h5, h6, h7, h8, h9⟩ := W2.ex
  rw [← hK] at h2 h3 h4 h5
  have hg : Gl Y "_law_word" := by rw [← hY]; exact WS.gl
  have hm : Y.mg "_law_word" = some (.ref g) := by rw [← hY]; exact h1
  have hv : Vis Y.env.scope "call" := by rw [← hY]; exact .inl WS.lo
  have hN : Y.N[1]? = some ("call" : Str) := by rw [← hY]; rfl
  have hG := h9 Y (X.env.qual ++ "<lambda>") (yK.trans hK) (by rw [← hY]; rfl) (by rw [← hY]; rfl) (by rw [← hY]; rfl) (by rw [← hY]; rfl) (by rw [yA]; exact hr.mono (by omega))
  refine wpAny_Call_Name_kw (ld_glob IY hg hm ?_ (by decide))
  refine PySem.W.callWith_K (h₀ := Y.base) IY.ok.mod.kin (by rw [yK]; exact h2) (thn ((pa_cons (pe_var (pos := p2) (i := 1) hN hv (by decide) (by decide)) pa_nil (by rfl)).run pos pinsY sY σY HY (fun vs H1 => vs = [.ref f] ∧ H1 = HY) IY ⟨.ref f, hs, rfl, rfl⟩) fun us t1 ⟨vs, H1, J1, rv, q1⟩ => ⟨J1.kIn, ?_⟩) (by rfl) (by rfl)
  obtain ⟨e1, e2⟩ := q1
  subst e1
  rw [e2] at J1
  obtain ⟨u, rfl, ru⟩ := vals1 rv
  obtain rfl : u = Value.ref f := ru
  have lk2 : Un (frs X.stack) [] H HY s.heap t1.heap := by
    have b0 := J1.base
    rw [← hY] at b0
    refine un_link lk b0 (fun c o e z => hst c o e ?_) fun c o e z => ?_
    · rw [← hY]; exact z
    · exact absurd (Nat.lt_of_lt_of_le (Heap.lt_size e) (hfp c z)) (Nat.lt_irrefl _)
  have rc : codeAny (model Y.prog Y.w) Y.A (.call (.ref g) ⟨[.ref f], []⟩) (CR C8.CX0 Y.stack Y.prog Y.w HY t1 Q C8.E0) t1 := by
    subst hY
    refine run_ofS (N := Ng) (ps := ["call"]) (us := [.ref f]) (vs := [.ref f]) h3 h4 h6 (k := k + 2) hr J1.env0 (h5 t1 [.ref f] J1.kIn rfl) (.cons rfl .nil) rfl fun hr' => ?_
    obtain ⟨t', ht', hq'⟩ := hG f c t1 HY Q (fun E HZ Q' => HZ f = some (LamO f (X.env.qual ++ "<lambda>") l.params l.body l.scope (cloFrom X.env.cells l.scope.names []) c) ∧ tEv B (wishOf E) l.f σ HZ Q')
      (fun W pn xe E p1 p2 tk hW => pe_act2 (i := 0) I Lg.sc lk2 hst (fun pm ctv => Lg.bd _ _ _ _ _) tk hW hr' (fun A outer s H hr2 => Lg.bo A outer s H E f c hr2) h7 h8) hc ⟨hL, hT⟩
    exact ⟨t', ht'.nox, hq'⟩
  show wpAny _ _ (call (.ref g) [.ref f]) _ _ _
  refine wpAny_call (codeAny_mono rc fun r s2z hqz => ?_)
  cases r with
  | error e => exact (show False from hqz).elim
  | ok fl =>
    cases fl with
    | ret u => exact J1.after hqz
    | next => exact False.elim hqz
    | brk => exact False.elim hqz
    | cont => exact False.elim hqz
end
end Rf

set_option maxRecDepth 100000
set_option maxHeartbeats 4000000
/-! # lambdas kept in a list: the call that asks for the words of all -/
namespace Rf
open PySem PySem.Spec PyProof.Rows L2 LamX
theorem sWord_ex {kw : Str → Option Str} {f : Rho → O D} {ρ ρ' : Rho} {e : Exc} : sWord kw f ρ ≠ .ex e ρ' := fun z => by
  unfold sWord at z
  split at z
  · cases z
  · split at z <;> cases z
  · cases z
theorem wordsO_ex {kw : Str → Option Str} : ∀ {fs : List (Rho → O D)} {ρ ρ' : Rho} {e : Exc}, wordsO kw fs ρ ≠ .ex e ρ'
  | [], _, _, _ => fun z => by
    have z : O.ok ([] : List D) _ = .ex _ _ := z
    cases z
  | f :: fs, ρ, ρ', e => fun z => by
    unfold wordsO sCons at z
    cases h : sWord kw f ρ with
    | ok y ρ1 =>
      rw [h] at z
      have z : (wordsO kw fs ρ1).bind (fun xs ρ2 => O.ok (y :: xs) ρ2) = .ex e ρ' := z
      cases h2 : wordsO kw fs ρ1 with
      | ok ys ρ2 => rw [h2] at z; cases z
      | ex e2 ρ2 => exact wordsO_ex h2
      | no => rw [h2] at z; cases z
    | ex e2 ρ1 => exact sWord_ex h
    | no => rw [h] at z; cases z
theorem wordsO_cons {kw : Str → Option Str} {f : Rho → O D} {fs : List (Rho → O D)} {ρ ρ' : Rho} {ys : List D} (h : wordsO kw (f :: fs) ρ = .ok ys ρ') : ∃ y zs ρ1, sWord kw f ρ = .ok y ρ1 ∧ wordsO kw fs ρ1 = .ok zs ρ' ∧ ys = y :: zs := by
  unfold wordsO sCons at h
  cases h1 : sWord kw f ρ with
  | ok y ρ1 =>
    rw [h1] at h
    have h : (wordsO kw fs ρ1).bind (fun xs ρ2 => O.ok (y :: xs) ρ2) = .ok ys ρ' := h
    cases h2 : wordsO kw fs ρ1 with
    | ok zs ρ2 => rw [h2] at h; cases h; exact ⟨y, zs, ρ1, rfl, h2, rfl⟩
    | ex e2 ρ2 => rw [h2] at h; cases h
    | no => rw [h2] at h; cases h
  | ex e2 ρ1 => exact absurd h1 sWord_ex
  | no => rw [h1] at h; cases h
theorem tYes_of {σ : L2.St} {H : Hp} {A C : Hp → Prop} (h : A H) : tYes σ H (fun b H3 => if b = true then A H3 else C H3) := by
  show (if true = true then A H else C H)
  rw [if_pos rfl]; exact h
section
variable {X : Cx} {B : Bs} {Wx : WX} {T : List (Addr × Str)} {cl : Str → Option Addr} {cm : Addr} {n : Nat} {fn : Addr → (Str → Bool) → Rho → OS} {kw : Str → Option Str}
theorem g_words (i : Nat) {k : Nat} {x : Str} {stW : Stmt} {scope : Scope} {ls : List Lam} {q1 q2 q3 q4 q5 q6 q7 p px pos : Pos} (hB : B = Be B.K T cl cm) (hK : X.K = B.K) (DW : Def1 B X.mg "_law_words" stW ["calls"]) (WS : WordsS stW scope)
    (hst : defBody stW = [.Return (some (.ListComp (.Call (.Name "_law_word" q1) [.Name "call" q2] [] q3) [⟨.Name "call" q4, .Name "calls" q5, [], 0⟩] scope q6)) q7])
    (W2 : WordD2 B X.prog X.w X.mg X.base cl cm n fn) (KW : KwOk cl n fn kw) (hr : Room (k + 4) X.A) (hls : ∀ l ∈ ls, LamGood X B k l)
    (hN : X.N[i]? = some x := by rfl) (hv : Vis X.env.scope x := by first | exact .inl rfl | exact .inr (.inl rfl) | exact .inr (.inr rfl)) (hd : (x == ("__debug__" : Str)) = false := by decide) (hcd : (x == ("__classdict__" : Str)) = false := by decide) (hg : Gl X "_law_words" := by rfl) :
    PE X (.Call (.Name "_law_words" p) [.Name x px] [] pos) (tWv X B Wx i ls (sFrz (wordsO kw (ls.map (·.f))))) := by
  refine ⟨fun pins s σ H Q I ⟨S, ρ, G, pl, vs, E, hσ, hgl, hz, hcl, P⟩ => ?_⟩
  obtain ⟨gW, fdW, F, hb, hm⟩ := DW.ex
  have kp := F.kp
  obtain ⟨oc, od, kV, dc, pm, an, cdW, ct, osl, rfl, lkW, hcdW⟩ := F.ex
  rw [← hK] at lkW hcdW hb kp
  refine wpAny_Call_Name_kw (ld_glob I hg hm ?_ (by decide))
  refine PySem.W.callWith_K (h₀ := X.base) I.ok.mod.kin kp (thn ((pa_cons (pe_var (pos := px) (i := i) hN hv hd hcd) pa_nil (by rfl)).run pos pins s σ H (fun vs1 H1 => vs1 = [.ref pl] ∧ H1 = H) I ⟨.ref pl, hσ, rfl, rfl⟩) fun us t1 ⟨vs1, H1, J1, rv, e1, e2⟩ => ⟨J1.kIn, ?_⟩) (by rfl) (by rfl)
  subst e1
  rw [e2] at J1
  obtain ⟨u, rfl, ru⟩ := vals1 rv
  obtain rfl : u = Value.ref pl := ru
  have rc : codeAny (model X.prog X.w) X.A (.call (.ref gW) ⟨[.ref pl], []⟩) (CR C8.CX0 X.stack X.prog X.w H t1 Q C8.E0) t1 := by
    refine run_ofS (N := ["calls", "call"]) (ps := ["calls"]) (us := [.ref pl]) (vs := [.ref pl]) (k := k + 3) lkW hcdW WS.fs hr J1.env0 (hb t1 [.ref pl] J1.kIn rfl) (.cons rfl .nil) rfl fun hr' => ?_
    rw [hst]
    refine ⟨_, pss_one (ps_ret (pe_lcU rfl WS.fs.nd (pi_list (pe_var (i := 0) rfl WS.vi (by decide) (by decide))) (blkOk_by WS.ok) (fun s3 H3 C cl fp => pg_name (i := 1) WS.fs.nd rfl (.inl WS.lo) (.inr WS.lo)) (fun s3 H3 C cl fp => pts_nil)
      (fun s3 H3 C cl fp u hfp => pe_wordV (k := k) (scope := scope) J1 hK WS W2 hr' u fun b hb => (hfp b hb).resolve_left fun z => nomatch (show b ∈ ([] : List Addr) from z)))), ?_⟩
    have hlen : vs.length = ls.length := (Paired.length hcl).symm
    unfold sFrz at P
    cases eg : wordsO kw (ls.map (·.f)) ρ with
    | no => rw [eg] at P; exact False.elim P
    | ex e ρ1 => exact absurd eg wordsO_ex
    | ok ws ρe =>
      rw [eg] at P
      have P : ∀ H' G', EnvOk B S ρe σ H' G' → Le G G' → ∀ v, Dp B.K G' v (.list ws) → Q v H' := P
      refine ⟨.ref pl, rfl, pl, rfl, ⟨vs, SqL.of (E.sub _ _ hgl)⟩, fun D hD => ?_⟩
      obtain ⟨F1, F2, F3, F4, F5⟩ := E.newl (vs := []) hD
      refine ⟨fun i m Hi => m = vs.length - i ∧ i ≤ vs.length ∧ ∃ ρi Gi acc accd rest, EnvOk B S ρi σ Hi Gi ∧ Hi D = some (.lst acc) ∧ Gi D = none ∧ Loose ρi σ D ∧ Le G Gi ∧ DpAll B.K Gi acc accd ∧ wordsO kw ((ls.drop i).map (·.f)) ρi = .ok rest ρe ∧ accd ++ rest = ws ∧ acc.length = i,
        ⟨vs.length, by simp, Nat.zero_le _, ρ, G, [], [], ws, F1, F2, F3, F5, Le.refl, .nil, eg, rfl, rfl⟩, ?_⟩
      rintro i m Hi ⟨rfl, hi, ρi, Gi, acc, accd, rest, Ei, hDi, gDi, loi, lei, dpi, gi, ei, li⟩
      have hpl : Hi pl = some (.lst vs) := Ei.sub _ _ (lei _ _ hgl)
      by_cases hlt : i < vs.length
      · refine .inr ?_
        have hvi : vs[i]? = some vs[i] := List.getElem?_eq_getElem hlt
        obtain ⟨l, hl, f, c, ev, hL, hc⟩ := paired_get hcl hvi
        have hlm : l ∈ ls := List.mem_of_getElem? hl
        have hdrop : ls.drop i = l :: ls.drop (i + 1) := by
          have h1 : i < ls.length := by omega
          rw [List.drop_eq_getElem_cons h1]
          rw [List.getElem?_eq_getElem h1] at hl
          rw [Option.some.inj hl]
        rw [hdrop, List.map_cons] at gi
        obtain ⟨y, zs, ρ1, g1, g2, rfl⟩ := wordsO_cons gi
        refine ⟨⟨vs, vs[i], SqL.of hpl, hvi⟩, fun H' => vs.length - (i + 1) = vs.length - (i + 1) ∧ i + 1 ≤ vs.length ∧ ∃ ρi Gi acc accd rest, EnvOk B S ρi σ H' Gi ∧ H' D = some (.lst acc) ∧ Gi D = none ∧ Loose ρi σ D ∧ Le G Gi ∧ DpAll B.K Gi acc accd ∧ wordsO kw ((ls.drop (i + 1)).map (·.f)) ρi = .ok rest ρe ∧ accd ++ rest = ws ∧ acc.length = i + 1,
          fun H' w => ⟨_, by omega, w⟩, fun xv H' hy => ?_⟩
        obtain ⟨rfl, hx⟩ := hy
        have ex := hx vs (SqL.of hpl)
        rw [hvi, ev] at ex
        cases ex
        refine ⟨rfl, tYes_of ?_⟩
        refine ⟨l, f, c, hls l hlm, rfl, Ei.sub _ _ (lei _ _ hL), (hc.up lei).at Ei, ?_⟩
        refine word_read2 (Wx := Wx) hB KW ⟨Rf.reb ρi σ H' Gi, ρi, Gi, Ei.reb, ?_⟩
        rw [g1]
        intro H4 G4 E4 le4 v hv
        have nt : ∀ ps, (HO.lst acc) ≠ .tbl ps := fun ps z => by cases z
        obtain ⟨k1, k2⟩ := E4.reb_keep hDi nt gDi loi (Ei.nodct hDi)
        have lo4 := E4.reb_loose hDi loi (Ei.nodct hDi)
        have Eu := Ei.unreb E4
        refine ⟨acc, k1, by rw [li, line_eq]; omega, rfl, hlt, ρ1, G4, acc ++ [v], accd ++ [y], zs, Eu.upl k1 k2 (S.wn D (E.there D hD)) lo4, upd_same, k2, lo4, lei.trans le4, (DpAll.up le4 dpi).append (.cons hv .nil), g2, by rw [← ei]; simp, by rw [List.length_append, li]; rfl⟩
      · have e : i = vs.length := by omega
        refine .inl ⟨⟨vs, SqL.of hpl, by omega⟩, ?_⟩
        have hd0 : ls.drop i = [] := List.drop_eq_nil_of_le (by omega)
        rw [hd0] at gi
        have gi : O.ok ([] : List Rf.D) ρi = .ok rest ρe := gi
        cases gi
        rw [List.append_nil] at ei
        subst ei
        exact P Hi (upd Gi D (.lst acc)) (Ei.freeze hDi gDi (S.wn D (E.there D hD)) loi (by rw [li, line_eq]; omega)) (lei.trans (Le.upd gDi)) _ (.lst (SqL.of upd_same) (DpAll.up (Le.upd gDi) dpi))
  show wpAny _ _ (call (.ref gW) [.ref pl]) _ _ _
  refine wpAny_call (codeAny_mono rc fun r s2z hqz => ?_)
  cases r with
  | error e => exact (show False from hqz).elim
  | ok fl =>
    cases fl with
    | ret u => exact J1.after hqz
    | next => exact False.elim hqz
    | brk => exact False.elim hqz
    | cont => exact False.elim hqz
end
/-! ### a def whose lambdas are told of its entry -/
section
variable {B : Bs} {P : Program} {w : World} {mg : Str → Option Value} {base : Heap} {Tb : List (Addr × Str)}
theorem ok_DC0 {x qual : Str} {st : Stmt} {f : Addr} {fd : FuncData} {N ps : List Str} {k : Nat} {fn : Rho → OS} (F : Fun B.K x qual st f fd) (S : FnScope N ps (defScope st))
    (hbody : ∀ (cdv : Value), CodeAt B.K x qual st f fd cdv → ∀ (A : Around) (outer : List Env) (s : Shared) (H : Hp) (E : XK), Room k (A.deeper (envOfC qual (defScope st) s.heap.objs.size f cdv)) →
      PSs (cxOf (L2N.CX P w) P w B.K mg base N qual (defScope st) f cdv A outer s H E) (defBody st) (tSt0 H B (wishOf E) fn)) : FnOk P w B.K mg base (L2N.CX P w) (k + 1) f fd ps (spOf B (mD (runD ps.length N.length fn))) := by
  have hps : ps.length ≤ N.length := by have := congrArg List.length S.pre; rw [List.length_take] at this; omega
  have sel : ∀ {cs : List C}, mD (runD ps.length N.length fn) cs ≠ .no → ∃ ds : List D, cs = ds.map C.dat ∧ ds.length = ps.length := fun {cs} h => by
    unfold mD at h
    cases e : datsOf cs with
    | none => rw [e] at h; exact absurd rfl h
    | some ds =>
      rw [e] at h
      refine ⟨ds, datsOf_eq e, ?_⟩
      dsimp only at h
      unfold runD at h
      by_cases q : ds.length = ps.length
      · exact q
      · rw [if_neg q] at h; exact absurd rfl h
  refine okN F S (fun vs H Q E h => ?_) (fun cdv hcd A outer s H vs Q E hr h => ?_)
  · obtain ⟨G, cs, no, nk, E0, h⟩ := h
    have hne : mD (runD ps.length N.length fn) cs ≠ .no := fun z => by rw [z] at h; exact h
    obtain ⟨ds, rfl, hl⟩ := sel hne
    have := E0.len
    unfold argsR argsS at this
    rw [List.length_map, List.length_map, List.length_map] at this
    omega
  · obtain ⟨G, cs, no, nk, E0, h⟩ := h
    have hne : mD (runD ps.length N.length fn) cs ≠ .no := fun z => by rw [z] at h; exact h
    obtain ⟨ds, rfl, hl⟩ := sel hne
    refine ⟨_, hbody cdv hcd A outer s H E hr, ?_⟩
    have hcl : (ds.map C.dat).length ≤ N.length := by rw [List.length_map]; omega
    refine ⟨_, _, G, rfl, E0.widen hcl, ?_⟩
    have nar : ∀ {ρ' σ' H' G'}, EnvOk B (Rf.reb (start0 N.length (ds.map C.dat)) (L2.start N vs) H G) ρ' σ' H' G' → EnvOk B (Rf.reb (argsR (ds.map C.dat)) (argsS vs) H G) (argsR (ds.map C.dat)) (argsS vs) H' G' := fun E1 =>
      E0.narrow no hcl E1 rfl (fun i d h => h) no nk (fun i v h => h) (fun i k d h => h) (fun i l h => absurd h (datsNo.1 i l)) (fun i l h => absurd h (datsNo.1 i l))
    unfold mD at h
    rw [datsOf_dats] at h
    dsimp only at h
    unfold runD at h
    rw [if_pos hl] at h
    cases ef : fn (start0 N.length (ds.map C.dat)) with
    | nx ρ' =>
      rw [ef] at h
      exact fun σ' H' G' E1 _ => h .non H' G' (nar E1) .non
    | ret d ρ' =>
      rw [ef] at h
      exact fun σ' H' G' E1 _ v hv => h v H' G' (nar E1) hv
    | retO l ρ' =>
      rw [ef] at h
      intro σ' H' G' E1 _ p us g1 g2 g3 g4 g5 g6
      refine h p us H' G' (nar E1) g1 g2 ?_ g5 g6
      rcases g3 with g3 | ⟨i, m, g3, _⟩ | ⟨i, ks, g3, _⟩
      · exact g3
      · rcases g3 with g3 | g3
        · exact absurd (start0_inv g3) (datsNo.2 i m)
        · exact absurd (start0_inv g3) (datsNo.1 i m)
      · exact absurd (start0_inv g3) (datsK i ks)
    | retK ks0 ρ' =>
      rw [ef] at h
      intro σ' H' G' E1 _ p g1 g2 g3
      refine h p H' G' (nar E1) g1 g2 ?_
      rcases g3 with g3 | ⟨i, m, g3, _⟩ | ⟨i, ks, g3, _⟩
      · exact g3
      · rcases g3 with g3 | g3
        · exact absurd (start0_inv g3) (datsNo.2 i m)
        · exact absurd (start0_inv g3) (datsNo.1 i m)
      · exact absurd (start0_inv g3) (datsK i ks)
    | retV k d ρ' =>
      rw [ef] at h
      exact fun σ' H' G' E1 _ v hv => h v H' G' (nar E1) hv
    | ex e ρ' =>
      rw [ef] at h
      exact fun cls a σ' H' G' E1 _ ex => h cls a H' G' (nar E1) ex
    | no => rw [ef] at h; exact h
theorem good_DL0 {x : Str} {st : Stmt} {N ps : List Str} {k : Nat} {fn : Rho → OS} (d : DefL B mg base Tb x st ps) (S : FnScope N ps (defScope st))
    (hbody : ∀ (f c P1 : Addr), TabB base mg c P1 → (P1, lamName x) ∈ Tb → (∀ p ∈ Tb, p.1 = P1 → p.2 = lamName x) → ∀ (A : Around) (outer : List Env) (s : Shared) (H : Hp) (E : XK), Room k (A.deeper (envOfC x (defScope st) s.heap.objs.size f (.ref c))) →
      PSs (cxOf (L2N.CX P w) P w B.K mg base N x (defScope st) f (.ref c) A outer s H E) (defBody st) (tSt0 H B (wishOf E) fn)) : FnGood B P w mg base (k + 1) x ps.length (mD (runD ps.length N.length fn)) := by
  obtain ⟨a, fd, c, P1, F, hb, hm, h1, h2, h3, h4⟩ := d.fun1
  refine ⟨a, fd, ps, ok_DC0 F S (fun cdv hc A outer s H E hr => ?_), hm, F.kp, hb, rfl⟩
  obtain ⟨oc, od, kV, dc, pm, an, ct, osl, e1, e2⟩ := hc
  rw [e1] at e2
  have e := h4 _ _ _ _ _ _ _ _ _ e2
  subst e
  exact hbody a c P1 h1 h2 h3 A outer s H E hr
end
end Rf

set_option maxRecDepth 100000
set_option maxHeartbeats 4000000
namespace Rf
open PySem PySem.Spec PyProof.Rows L2 LamX
section
variable {X : Cx} {B : Bs} {Wx : WX}
theorem g_ofL {i : Nat} {ls : List Lam} {e : Expr} {f : Rho → O D} (h : PE X e (tEv B Wx f)) : PE X e (tWv X B Wx i ls f) := h.imp' fun σ H Q ⟨S, ρ, G, p, vs, E, hσ, hg, hz, hcl, P⟩ => ⟨S, ρ, G, E, P⟩
theorem g_cmpL2 {i : Nat} {ls : List Lam} {op : CmpOp} {a b : Expr} {pos : Pos} {fa fb : Rho → O Rf.D} (hK : X.K = B.K) (hu : X.A.units + 65 < cLine) (ha : PE X a (tWv X B Wx i ls fa)) (hb : PE X b (tWv X B Wx i ls fb)) (hm : behindInMarks op b = false := by rfl) : PE X (.Compare a [op] [b] pos) (tWv X B Wx i ls (s2 (bCmp op) fa fb)) :=
  (pe_cmpR (opD_cmp hK hu op) ha hb hm).imp' fun σ H Q ⟨S, ρ, G, p, vs, E, hσ, hg, hz, hcl, P⟩ => by
    refine ⟨S, ρ, G, p, vs, E, hσ, hg, hz, hcl, P.bind.imp fun x ρ1 H1 G1 E1 le1 q1 v hv => ?_⟩
    refine ⟨S, ρ1, G1, p, vs, E1, hσ, le1 _ _ hg, hz, cls_up le1 hcl, q1.bind.imp fun y ρ2 H2 G2 E2 le2 q2 w hw => ?_⟩
    have q2 : Post B S Wx σ G2 (lift (bCmp op x y) ρ2) _ := q2
    cases e : bCmp op x y with
    | none => rw [e] at q2; exact False.elim q2
    | some z =>
      rw [e] at q2
      exact ⟨S, ρ2, σ, G2, x, y, z, E2, Dp.up le2 hv, hw, e, fun H' G' E' le u hu => q2 H' G' E' le u hu⟩
/-- [x, ..] * len(the list of lambdas) -/
theorem g_repL (i : Nat) {ls : List Lam} {x : Str} {es : List Expr} {n : Int} {p p1 p2 p3 pos : Pos} {fa : Rho → O (List Rf.D)} (hK : X.K = B.K) (hlen : n = (ls.length : Int)) (hm : X.mg "len" = none) (ha : PA X es (tEs B Wx fa))
    (hN : X.N[i]? = some x := by rfl) (hv : Vis X.env.scope x := by first | exact .inl rfl | exact .inr (.inl rfl) | exact .inr (.inr rfl)) (hd : (x == ("__debug__" : Str)) = false := by decide) (hcd : (x == ("__classdict__" : Str)) = false := by decide) (hg : Gl X "len" := by rfl)
    (he : starEach [.Name x p2] X.env = (false, eval (.Name x p2) X.env) :: starEach [] X.env := by rfl) : PE X (.BinOp (.List es p) .Mult (.Call (.Name "len" p1) [.Name x p2] [] p3) pos) (tWv X B Wx i ls (sFrz (sRep fa (sCon (.int n))))) :=
  (pe_op op_rep (pe_lst ha) (pe_callB call_len_seq hg hm (by decide +kernel) (pa_cons (pe_var (i := i) hN hv hd hcd) pa_nil he) (by decide) (by decide) he (by rfl))).imp' fun σ H Q ⟨S, ρ, G, pl, us, E, hσ, hgl, hz, hcl, P⟩ => by
    refine ⟨S, ρ, G, E, P.bind.bind.imp fun l ρ1 H1 G1 E1 le1 q vs hvs => ?_⟩
    by_cases hl : l.length ≤ 1000
    · rw [if_pos hl] at q
      have hz1 : vs.length ≤ sizeLine := by rw [hvs.length]; exact le_line hl
      refine ⟨hz1, fun p hp => ?_⟩
      have E2 := E1.new (o := .lst vs) hp (fun _ => HO.noConfusion) hz1
      have le2 : Le G1 (upd G1 p (.lst vs)) := Le.upd (E1.gnone hp)
      have q := Post.at E2 (Post.le q.bind le2)
      have hpl : (upd H1 p (.lst vs)) pl = some (.lst us) := E2.sub pl _ (le2 _ _ (le1 _ _ hgl))
      refine ⟨.ref pl, hσ, pl, us, rfl, .inl (SqL.of hpl), ?_⟩
      have el : (us.length : Int) = n := by rw [hlen, Paired.length hcl]
      rw [el]
      dsimp only at q
      have q2 := q
      split at q2
      · rename_i hk
        refine ⟨p, n, vs, rfl, rfl, upd_same, hk.1, hk.2.1, by rw [hvs.length, line_eq]; exact hk.2.2, fun r hr => ?_⟩
        obtain ⟨e1, e2, e3, e4, e5⟩ := E2.newl (vs := (List.replicate n.toNat vs).flatten) hr
        have hz3 : (List.replicate n.toNat vs).flatten.length ≤ sizeLine := by rw [PyProof.Rows.lm_len_rep_flat, line_eq, hvs.length, Nat.mul_comm]; exact hk.2.2
        exact Post.at (e1.freeze e2 e3 e4 e5 hz3) (Post.le q2 (Le.upd e3)) _ _ (e1.freeze e2 e3 e4 e5 hz3) Le.refl _ (.lst (SqL.of upd_same) (DpAll.up (Le.upd e3) ((DpAll.up le2 hvs).rep _)))
      · exact False.elim q2
    · rw [if_neg hl] at q; exact False.elim q
theorem goodL_nil {k : Nat} : ∀ l' ∈ ([] : List Lam), LamGood X B k l' := fun l' h' => nomatch h'
theorem goodL_cons {k : Nat} {l : Lam} {ls : List Lam} (h1 : LamGood X B k l) (h : ∀ l' ∈ ls, LamGood X B k l') : ∀ l' ∈ l :: ls, LamGood X B k l' := fun l' h' => by
  rcases List.mem_cons.mp h' with z | z
  · rw [z]; exact h1
  · exact h l' z
/-- int(x), x a text too -/
def dIntS : List D → Option D
  | [.str z] => if z.length ≤ 640 then (PySem.intText? z).map .int else none
  | ds => dInt ds
theorem c_intS : CallR X (.type "int") (rC B dIntS) := by
  intro pins s σ H vs us Q I r h
  obtain ⟨S, ρ, σ', G, ds, z, E, hd, e, q⟩ := h
  unfold dIntS at e
  split at e
  · rename_i y
    split at e
    · rename_i hz
      cases ey : PySem.intText? y with
      | none => rw [ey] at e; cases e
      | some n =>
        rw [ey] at e; cases e
        obtain ⟨v, rfl, hv⟩ := all1 hd
        cases dstr hv
        exact call_int_str pins s σ H _ us Q I r ⟨_, n, rfl, ey, hz, q H G E Le.refl _ (.int _)⟩
    · cases e
  · exact c_int pins s σ H vs us Q I r ⟨S, ρ, σ', G, ds, z, E, hd, e, q⟩
/-- a tuple of the module's own -/
theorem g_gtup {x : Str} {d : D} {pos : Pos} (hm : ∃ a, X.mg x = some (.ref a) ∧ Dp B.K (fun _ => none) (.ref a) d) (hg : Gl X x := by rfl) (hdb : (x == ("__debug__" : Str)) = false := by decide) : PE X (.Name x pos) (tEv B Wx (sCon d)) :=
  let ⟨a, h, hd⟩ := hm
  r_glob (v := .ref a) hg h rfl hd hdb
theorem tup_strs {K : PySem.W.Frag} {a : Addr} {o : Obj} {n : Nat} {zs : List Str} {ts : List Tok} (h : K.lookup a = some o) (hc : o.cls = .type "tuple") (hd : o.data = .seq (List.zipWith (fun z t => Value.str z t) zs ts).toArray n) (hl : zs.length = ts.length) (hz : zs.length ≤ 1000) :
    Dp K (fun _ => none) (.ref a) (.tuple (zs.map .str)) := by
  refine .tup (xs := zs.map V.str) (.inr ⟨o, _, n, h, hc, hd, ?_, ?_⟩) (DpAll.of_strs zs)
  · rw [List.size_toArray, List.length_zipWith]
    exact le_line (by omega)
  · show Vals _ (List.zipWith (fun z t => Value.str z t) zs ts)
    clear hd h
    induction zs generalizing ts with
    | nil => exact .nil
    | cons z zs ih =>
      cases ts with
      | nil => simp at hl
      | cons t ts => exact .cons ⟨t, rfl⟩ (ih (by simpa using hl) (by simp at hz; omega))
end
end Rf

set_option maxRecDepth 100000
set_option maxHeartbeats 1000000
/-! # t[::-1], t a pair -/
namespace Rf
open PySem PySem.Spec PyProof.Rows L2 HT
theorem pick_rev (u v : Value) : ((List.range 2).filterMap fun (k : Nat) => #[u, v][((1 : Int) + (k : Int) * -1).toNat]?).toArray = #[v, u] := by
  have e : (List.range 2) = [0, 1] := by decide
  rw [e]
  simp
section
variable {prog : Program} {w : World} {A : Around} {E : Value → Shared → Prop} {s : Shared}
theorem applied_rev {sl : Addr} {vl vu vs : Value} {Q : Int × Int × Nat → Shared → Prop} (hs : s.heap.IsSliceOf sl vl vu vs) (pl : IsPart vl none) (pu : IsPart vu none) (ps : IsPart vs (some (-1))) (h : Q (1, -1, 2) s) : wpAny (model prog w) A (Builtin.Slice.sliceApplied (.ref sl) (pure 2)) Q E s := by
  obtain ⟨os, hos, hcs, hds⟩ := id hs
  unfold Builtin.Slice.sliceApplied Builtin.Slice.sliceFields
  refine wpAny_bind (wpAny_bind (wpAny_field hos hds (x := vl) rfl (wpAny_bind (wpAny_field hos hds (x := vu) rfl (wpAny_bind (wpAny_field hos hds (x := vs) rfl (wpAny_pure ?_)))))))
  refine wpAny_bind (slicePart_ ps ?_)
  show wpAny _ _ (if ((-1 : Int) == 0) = true then _ else _) _ _ s
  rw [if_neg (by decide)]
  refine wpAny_bind (slicePart_ pl (wpAny_bind (slicePart_ pu (wpAny_bind (wpAny_pure ?_)))))
  have e1 : Builtin.Slice.sliceAdjust none none (-1) 2 = (1, -1) := by decide
  have e2 : Builtin.Slice.slicePlaces 1 (-1) (-1) = 2 := by decide
  show wpAny _ _ (match Builtin.Slice.sliceAdjust none none (-1) 2 with | (lo, hi) => pure (lo, (-1 : Int), Builtin.Slice.slicePlaces lo hi (-1))) _ _ s
  rw [e1]
  show wpAny _ _ (pure ((1 : Int), (-1 : Int), Builtin.Slice.slicePlaces 1 (-1) (-1))) _ _ s
  rw [e2]
  exact wpAny_pure h
theorem getItem_pair_rev {t sl : Addr} {u v vl vu vs : Value} {Q : Value → Shared → Prop} (ht : IsTup s.heap t #[u, v]) (hs : s.heap.IsSliceOf sl vl vu vs) (pl : IsPart vl none) (pu : IsPart vu none) (ps : IsPart vs (some (-1)))
    (h : Q (.ref s.heap.objs.size) { s with heap := s.heap.push { cls := .type "tuple", data := .seq #[v, u] } }) : wpAny (model prog w) A (getItem (.ref t) (.ref sl)) Q E s := by
  have hz : sizeOk (.seq #[v, u]) := by
    show 2 ≤ sizeLine
    rw [sizeLine_eq]; omega
  obtain ⟨os, hos, hcs, hds⟩ := id hs
  have hTs : s.TypeIs (.ref sl) "slice" := ⟨os, hos, hcs⟩
  unfold getItem
  try with_reducible refine wpAny_holding ?_
  first | refine wpAny_bind (wpAny_pure ?_) | skip
  refine wpAny_bind (wpAny_sequenceKey ht.typeIs (by decide) ?_)
  refine wpAny_bind (wpAny_callSpecial?_slot (name := Str.ofString "__getitem__") ht.typeIs PyProof.Rows.slot_tuple_getitem
    (wpAny_call_entry PyProof.Rows.slot_tuple_getitem ht.typeIs entry_tuple_getitem ?_ (args_tuple_getitem _ _)))
  show wpAny _ _ (Builtin.Tuple.tupleItemsOf (.ref t) >>= _) _ _ s
  refine wpAny_bind (tupleItemsOf_ ht ?_)
  refine wpAny_bind (wpAny_typeOf hTs ?_)
  rw [if_pos (by decide)]
  refine wpAny_bind (applied_rev hs pl pu ps ?_)
  have hno : ¬ (((1 : Int) == 0 && (-1 : Int) == 1 && ((2 : Nat) == (#[u, v] : Array Value).size)) = true) := by
    intro q
    rw [Bool.and_eq_true, Bool.and_eq_true] at q
    have q1 : (1 : Int) = 0 := eq_of_beq q.1.1
    omega
  show wpAny _ _ (if ((1 : Int) == 0 && (-1 : Int) == 1 && ((2 : Nat) == (#[u, v] : Array Value).size)) = true then _ else _) _ _ s
  rw [if_neg hno, pick_rev]
  first
    | exact wpAny_bind (m := Builtin.Tuple.tupleExact _) (wpAny_newObj_type (wpAny_pure ⟨_, rfl, wpAny_pure h⟩) hz)
    | exact wpAny_bind (m := Builtin.Tuple.tupleExact _) (wpAny_newObj_type (wpAny_bind (wpAny_pure (wpAny_pure ⟨_, rfl, wpAny_pure h⟩))) hz)
    | exact wpAny_bind (wpAny_bind (m := Builtin.Tuple.tupleExact _) (wpAny_newObj_type (wpAny_pure (wpAny_pure ⟨_, rfl, wpAny_pure h⟩)) hz))
    | exact wpAny_bind (wpAny_bind (m := Builtin.Tuple.tupleExact _) (wpAny_newObj_type (wpAny_pure ⟨_, rfl, wpAny_pure h⟩) hz))
end
section
variable {X : Cx} {B : Bs} {Wx : WX}
def tRevP (K : PySem.W.Frag) (te : TE) : TE := fun σ H Q => te σ H fun x H1 => ∃ a u v, x = .ref a ∧ SqT K H1 a [u, v] ∧ ∀ p, H1 p = none → Q (.ref p) (upd H1 p (.tup [v, u]))
theorem pe_revP {e : Expr} {te : TE} {k : Nat} {p1 p2 p3 pos : Pos} (he : PE X e te) : PE X (.Subscript e (.Slice none none (some (.UnaryOp .USub (.Constant (.int 1) k p1) p2)) p3) pos) (tRevP X.K te) := by
  refine ⟨fun pins s σ H Q I h => ?_⟩
  refine Subscript_ (thn (he.run pins s σ H _ I h) fun v s1 ⟨x, H1, I1, r1, q1⟩ => ?_)
  obtain ⟨a, y, z, ex, hx, q⟩ := q1
  subst ex
  cases r1
  have hst : PO X (some (.UnaryOp .USub (.Constant (.int 1) k p1) p2)) (tPart (tUn (rU fun i => .int (-i)) (tC (.int 1)))) := po_some (pe_un un_neg pe_int)
  refine wpAny_Slice (thn (po_none.run pins s1 σ H1 (fun o H2 => o = none ∧ H2 = H1) I1 ⟨rfl, rfl⟩) fun vl t2 ⟨l, H2, I2, pl, el, e2⟩ => ?_)
  subst el e2
  refine thn (po_none.run pins t2 σ H2 (fun o H3 => o = none ∧ H3 = H2) I2 ⟨rfl, rfl⟩) fun vu t3 ⟨u, H3, I3, pu, eu, e3⟩ => ?_
  subst eu e3
  refine thn (hst.run pins t3 σ H3 (fun o H4 => o = some (-1) ∧ H4 = H3) I3 ⟨1, rfl, -1, rfl, rfl, rfl⟩) fun vs t4 ⟨o, H4, I4, ps, eo, e4⟩ => ?_
  subst eo e4
  have I5 : Inv X pins σ H4 { t4 with heap := t4.heap.push { cls := .type "slice", data := .fields #[vl, vu, vs] } } := I4.kept (t' := t4.toks) fun b ob q => Heap.get?_push_of_some _ q
  obtain ⟨its, r, ht, hz⟩ := I5.tuple hx
  cases r with
  | @cons _ c _ cs rc r =>
    cases r with
    | @cons _ d _ ds rd r =>
      cases r
      have ht2 : IsTup { t4 with heap := t4.heap.push { cls := .type "slice", data := .fields #[vl, vu, vs] } }.heap a #[c, d] := ht
      have fin : wpAny (model X.prog X.w) X.A (getItem (.ref a) (.ref t4.heap.objs.size)) (EP X pins σ Q) X.xe { t4 with heap := t4.heap.push { cls := .type "slice", data := .fields #[vl, vu, vs] } } := by
        refine getItem_pair_rev ht2 (Heap.IsSliceOf.new _ vl vu vs) pl pu ps ?_
        refine ⟨.ref _, _, I5.laid (t' := t4.toks) (o := .tup [z, y]) (fun b ob q => Heap.get?_push_of_some _ q) (Nat.le_refl _) ?_, rfl, q _ (I5.hok.fresh (Nat.le_refl _))⟩
        exact ⟨by show 2 ≤ sizeLine; rw [sizeLine_eq]; omega, [d, c], .cons rd (.cons rc .nil), IsTup.new _ _⟩
      show wpAny (model X.prog X.w) X.A (subscriptTail e (.Slice none none (some (.UnaryOp .USub (.Constant (.int 1) k p1) p2)) p3) (.ref a) (.ref t4.heap.objs.size)) (EP X pins σ Q) X.xe { t4 with heap := t4.heap.push { cls := .type "slice", data := .fields #[vl, vu, vs] } }
      exact tail_any (ops := [.ref a, .ref t4.heap.objs.size]) ht.typeIs PyProof.Rows.slot_tuple_getitem.lookup fin (by with_unfolding_all rfl)
def sRevP (fa : Rho → O D) : Rho → O D := fun ρ => (fa ρ).bind fun x ρ1 => match x with
  | .tuple [a, b] => .ok (.tuple [b, a]) ρ1
  | _ => .no
theorem g_revP {e : Expr} {k : Nat} {p1 p2 p3 pos : Pos} {fa : Rho → O D} (hK : X.K = B.K) (he : PE X e (tEv B Wx fa)) : PE X (.Subscript e (.Slice none none (some (.UnaryOp .USub (.Constant (.int 1) k p1) p2)) p3) pos) (tEv B Wx (sRevP fa)) :=
  (pe_revP he).imp' fun σ H Q ⟨S, ρ, G, E, P⟩ => by
    refine ⟨S, ρ, G, E, P.bind.imp fun x ρ1 H1 G1 E1 le1 q1 v hv => ?_⟩
    split at q1
    · obtain ⟨a, xs, rfl, s1, a1⟩ := dtup hv
      cases a1 with
      | cons ha a1 =>
        cases a1 with
        | cons hb a1 =>
          cases a1
          refine ⟨a, _, _, rfl, hK ▸ SqT.le E1.sub s1, fun p hp => ?_⟩
          exact q1 _ (upd G1 p _) (E1.new (o := .tup _) hp (fun _ => HO.noConfusion) (show [_, _].length ≤ sizeLine by rw [line_eq]; simp)) (Le.upd (E1.gnone hp)) _ (.tup (SqT.of upd_same) (DpAll.up (Le.upd (E1.gnone hp)) (.cons hb (.cons ha .nil))))
    · exact False.elim q1
end
end Rf

set_option maxRecDepth 100000
set_option maxHeartbeats 4000000
/-! # a new list of two; how long a held list is -/
namespace Rf
open PySem PySem.Spec PyProof.Rows L2
section
variable {X : Cx} {B : Bs} {Wx : WX}
/-- xs + ys, a new list -/
def sCatO (fa fb : Rho → O D) : Rho → O (List D) := fun ρ => (fa ρ).bind fun x ρ1 => (fb ρ1).bind fun y ρ2 => match x, y with
  | .list a, .list b => if a.length + b.length ≤ 16777216 then .ok (a ++ b) ρ2 else .no
  | _, _ => .no
theorem g_catO {a b : Expr} {pos : Pos} {fa fb : Rho → O D} (hK : X.K = B.K) (ha : PE X a (tEv B Wx fa)) (hb : PE X b (tEv B Wx fb)) : PE X (.BinOp a .Add b pos) (tEo B Wx (sCatO fa fb)) :=
  (pe_op op_catL ha hb).imp' fun σ H Q ⟨S, ρ, G, E, P⟩ => by
    refine ⟨S, ρ, G, E, P.bind.imp fun x ρ1 H1 G1 E1 le1 q1 v hv => ?_⟩
    refine ⟨S, ρ1, G1, E1, q1.bind.imp fun y ρ2 H2 G2 E2 le2 q2 w hw => ?_⟩
    split at q2
    · rename_i c d
      split at q2
      · rename_i hl
        obtain ⟨p, xs, rfl, s1, a1⟩ := dlst hv
        obtain ⟨r, ys, rfl, s2, a2⟩ := dlst hw
        refine ⟨p, r, xs, ys, rfl, rfl, hK ▸ SqL.le (le2.trans E2.sub) s1, hK ▸ SqL.le E2.sub s2, by rw [a1.length, a2.length, line_eq]; exact hl, fun z hz => ?_⟩
        obtain ⟨e1, e2, e3, e4, e5⟩ := E2.newl (vs := xs ++ ys) hz
        exact q2 _ G2 e1 Le.refl z _ e2 e3 e4 e5 (by rw [List.length_append, a1.length, a2.length, line_eq]; exact hl) ((DpAll.up le2 a1).append a2)
      · exact False.elim q2
    · exact False.elim q2
/-- len(name), a list that is held -/
def sLenH (i : Nat) : Rho → O D := fun ρ => match heldAt ρ i with
  | some l => .ok (.int l.length) ρ
  | none => .no
theorem g_lenH (i : Nat) {x : Str} {p1 p2 pos : Pos} (hm : X.mg "len" = none) (hN : X.N[i]? = some x := by rfl) (hv : Vis X.env.scope x := by first | exact .inl rfl | exact .inr (.inl rfl) | exact .inr (.inr rfl)) (hd : (x == ("__debug__" : Str)) = false := by decide) (hcd : (x == ("__classdict__" : Str)) = false := by decide) (hg : Gl X "len" := by rfl)
    (he : starEach [.Name x p2] X.env = (false, eval (.Name x p2) X.env) :: starEach [] X.env := by rfl) : PE X (.Call (.Name "len" p1) [.Name x p2] [] pos) (tEv B Wx (sLenH i)) :=
  (pe_callB call_len_seq hg hm (by decide +kernel) (pa_cons (pe_var (i := i) hN hv hd hcd) pa_nil he) (by decide) (by decide) he (by rfl)).imp' fun σ H Q ⟨S, ρ, G, E, P⟩ => by
    unfold sLenH at P
    cases hh : heldAt ρ i with
    | none => rw [hh] at P; exact False.elim P
    | some l =>
      rw [hh] at P
      obtain ⟨a, us, k1, k2, k3, k4, _⟩ := E.held i l (heldAt_hd hh)
      refine ⟨.ref a, k1, a, us, rfl, .inl (SqL.of k2), ?_⟩
      rw [k4.length]
      exact P H G E Le.refl _ (.int _)
end
end Rf

set_option maxRecDepth 100000
set_option maxHeartbeats 4000000
namespace Rf
open PySem PySem.Spec PyProof.Rows L2
/-! ### comprehensions and loops, as lists -/
theorem lc_pure {t : Tg} {vs : List Nat} {fc fe : Rho → O D} {ρ0 : Rho} (p : D → Bool) (g : D → D) : ∀ {xs : List D}, (∀ x ∈ xs, ∃ ρx, Rf.bindT t x ρ0 = some ρx ∧ fc ρx = .ok (.bool (p x)) ρx ∧ (p x = true → fe ρx = .ok (g x) ρx) ∧ wipeR ρx vs = ρ0) → lcGo t vs fc fe xs ρ0 = .ok ((xs.filter p).map g) ρ0
  | [], _ => rfl
  | x :: xs, h => by
    obtain ⟨ρx, h1, h2, h3, h4⟩ := h x List.mem_cons_self
    have ih := lc_pure p g fun y hy => h y (List.mem_cons_of_mem _ hy)
    unfold lcGo
    rw [h1]
    dsimp only
    rw [h2]
    cases e : p x with
    | true =>
      dsimp only
      rw [h3 e]
      dsimp only
      rw [h4, ih, List.filter_cons_of_pos e]
      rfl
    | false =>
      dsimp only
      rw [h4, ih, List.filter_cons_of_neg (by rw [e]; decide)]
theorem slc_pure {t : Tg} {vs : List Nat} {fi : Rho → O (List D)} {fc fe : Rho → O D} {ρ ρ0 : Rho} {xs : List D} (p : D → Bool) (g : D → D) (hi : fi ρ = .ok xs ρ) (hn : notHeld ρ vs = true) (hw : wipeR ρ vs = ρ0) (hr : restR ρ ρ0 vs = ρ)
    (h : ∀ x ∈ xs, ∃ ρx, Rf.bindT t x ρ0 = some ρx ∧ fc ρx = .ok (.bool (p x)) ρx ∧ (p x = true → fe ρx = .ok (g x) ρx) ∧ wipeR ρx vs = ρ0) : sLc t vs fi fc fe ρ = .ok ((xs.filter p).map g) ρ := by
  unfold sLc
  rw [hi]
  show (if notHeld ρ vs = true then _ else _) = _
  rw [if_pos hn, hw, lc_pure p g h]
  dsimp only
  rw [hr]
theorem lc2_pure {t t1 : Tg} {vs vs1 : List Nat} {fc fc1 fe : Rho → O D} {fi1 : Rho → O (List D)} {ρ0 : Rho} (zs : D → List D) : ∀ {xs : List D}, (∀ x ∈ xs, ∃ ρx ys ρy, Rf.bindT t x ρ0 = some ρx ∧ fc ρx = .ok (.bool true) ρx ∧ fi1 ρx = .ok ys ρx ∧ notHeld ρx vs1 = true ∧ lcGo t1 vs1 fc1 fe ys (wipeR ρx vs1) = .ok (zs x) ρy ∧ wipeR ρy vs = ρ0) → lc2Go t vs fc fi1 t1 vs1 fc1 fe xs ρ0 = .ok (xs.flatMap zs) ρ0
  | [], _ => rfl
  | x :: xs, h => by
    obtain ⟨ρx, ys, ρy, h1, h2, h3, h4, h5, h6⟩ := h x List.mem_cons_self
    have ih := lc2_pure zs fun y hy => h y (List.mem_cons_of_mem _ hy)
    unfold lc2Go
    rw [h1]
    dsimp only
    rw [h2]
    dsimp only
    rw [h3]
    dsimp only
    rw [if_pos h4, h5]
    dsimp only
    rw [h6, ih]
    rfl
theorem slc2_pure {t t1 : Tg} {vs vs1 : List Nat} {fi fi1 : Rho → O (List D)} {fc fc1 fe : Rho → O D} {ρ ρ0 : Rho} {xs : List D} (zs : D → List D) (hi : fi ρ = .ok xs ρ) (hn : notHeld ρ vs = true) (hw : wipeR ρ vs = ρ0) (hr : restR ρ ρ0 vs = ρ) (hl : (xs.flatMap zs).length ≤ 16777216)
    (h : ∀ x ∈ xs, ∃ ρx ys ρy, Rf.bindT t x ρ0 = some ρx ∧ fc ρx = .ok (.bool true) ρx ∧ fi1 ρx = .ok ys ρx ∧ notHeld ρx vs1 = true ∧ lcGo t1 vs1 fc1 fe ys (wipeR ρx vs1) = .ok (zs x) ρy ∧ wipeR ρy vs = ρ0) : sLc2 t vs fi fc fi1 t1 vs1 fc1 fe ρ = .ok (xs.flatMap zs) ρ := by
  unfold sLc2
  rw [hi]
  show (if notHeld ρ vs = true then _ else _) = _
  rw [if_pos hn, hw, lc2_pure zs h]
  dsimp only
  rw [if_pos hl, hr]
theorem for_rel {t : Tg} {f : Rho → OS} {σ : Type} (P : σ → Rho → Prop) (step : σ → D → σ) : ∀ {xs : List D} {s : σ} {ρ : Rho}, P s ρ → (∀ x ∈ xs, ∀ s ρ, P s ρ → ∃ ρ1 ρ2, Rf.bindT t x ρ = some ρ1 ∧ f ρ1 = .nx ρ2 ∧ P (step s x) ρ2) → ∃ ρ', forGo t f xs ρ = .nx ρ' ∧ P (xs.foldl step s) ρ'
  | [], s, ρ, h, _ => ⟨ρ, rfl, h⟩
  | x :: xs, s, ρ, h, k => by
    obtain ⟨ρ1, ρ2, h1, h2, h3⟩ := k x List.mem_cons_self s ρ h
    obtain ⟨ρ', h4, h5⟩ := for_rel P step h3 fun y hy => k y (List.mem_cons_of_mem _ hy)
    refine ⟨ρ', ?_, h5⟩
    unfold forGo
    rw [h1]
    dsimp only
    rw [h2]
    exact h4
/-- by the number of turns -/
theorem for_num {t : Tg} {f : Rho → OS} (P : Nat → Rho → Prop) : ∀ {xs : List D} {n : Nat} {ρ : Rho}, P n ρ → (∀ x ∈ xs, ∀ m ρ, P m ρ → ∃ ρ1 ρ2, Rf.bindT t x ρ = some ρ1 ∧ f ρ1 = .nx ρ2 ∧ P (m + 1) ρ2) → ∃ ρ', forGo t f xs ρ = .nx ρ' ∧ P (n + xs.length) ρ'
  | [], n, ρ, h, _ => ⟨ρ, rfl, h⟩
  | x :: xs, n, ρ, h, k => by
    obtain ⟨ρ1, ρ2, h1, h2, h3⟩ := k x List.mem_cons_self n ρ h
    obtain ⟨ρ', h4, h5⟩ := for_num P h3 fun y hy => k y (List.mem_cons_of_mem _ hy)
    refine ⟨ρ', ?_, by rw [List.length_cons, show n + (xs.length + 1) = n + 1 + xs.length by omega]; exact h5⟩
    unfold forGo
    rw [h1]
    dsimp only
    rw [h2]
    exact h4
/-! ### what can be compared -/
def shK (k : Nat) (d : D) : Prop := d.canLay0 = true ∧ d.depth ≤ k
theorem sh_of {k : Nat} {d : D} (h : shK k d) (hk : k ≤ 64 := by decide) : shaped d = true := Bool.and_eq_true_iff.mpr ⟨h.1, decide_eq_true (Nat.le_trans h.2 hk)⟩
theorem sh_all {k : Nat} : ∀ {xs : List D}, (∀ x ∈ xs, shK k x) → PyData.canLayAll0 xs = true ∧ PyData.depthAll xs ≤ k
  | [], _ => ⟨by simp [PyData.canLayAll0], by simp [PyData.depthAll]⟩
  | x :: xs, h => by
    obtain ⟨h1, h2⟩ := h x List.mem_cons_self
    obtain ⟨h3, h4⟩ := sh_all fun y hy => h y (List.mem_cons_of_mem _ hy)
    exact ⟨by simp [PyData.canLayAll0, h1, h3], by simp only [PyData.depthAll]; omega⟩
theorem sh_list {k : Nat} {xs : List D} (h : ∀ x ∈ xs, shK k x) : shK (k + 1) (.list xs) := ⟨by simp [PyData.canLay0, (sh_all h).1], by have := (sh_all h).2; simp only [PyData.depth]; omega⟩
theorem sh_tup {k : Nat} {xs : List D} (h : ∀ x ∈ xs, shK k x) : shK (k + 1) (.tuple xs) := ⟨by simp [PyData.canLay0, (sh_all h).1], by have := (sh_all h).2; simp only [PyData.depth]; omega⟩
theorem sh_int {k : Nat} (i : Int) : shK k (.int i) := ⟨by simp [PyData.canLay0], by simp [PyData.depth]⟩
theorem sh_ints {k : Nat} (l : List Int) : ∀ x ∈ l.map PyData.int, shK k x := fun x hx => by
  obtain ⟨i, _, rfl⟩ := List.mem_map.mp hx
  exact sh_int i
theorem eqv_ints : ∀ a b : List Int, PyData.eqvAll (a.map PyData.int) (b.map PyData.int) = decide (a = b)
  | [], [] => by simp [PyData.eqvAll]
  | [], b :: bs => by simp [PyData.eqvAll]
  | a :: as, [] => by simp [PyData.eqvAll]
  | a :: as, b :: bs => by
    simp only [List.map_cons, PyData.eqvAll, PyData.eqv, eqv_ints as bs]
    by_cases h1 : a = b
    · by_cases h2 : as = bs
      · simp [h1, h2]
      · simp [h2]
    · simp [h1]
end Rf

set_option maxRecDepth 100000
set_option maxHeartbeats 4000000
namespace K12
open PySem PySem.Spec PyProof.Rows L2 Rf
def top (i : Nat) : Stmt := PySem.Challenge.pw_spreadwebs_k12_whole_texts_of_webs.main.body.getD i (.Pass ⟨0, 0, 0, 0⟩)
structure Txt (B : Bs) (P : Program) (w : World) (mg : Str → Option Value) (base : Heap) (Tb : List (Addr × Str)) (L : List (Str × Addr)) (cm : Addr) : Prop where
  c_LEAST_PLACES : ∃ t, mg "LEAST_PLACES" = some (.int 3 t)
  c_MOST_PLACES : ∃ t, mg "MOST_PLACES" = some (.int 8 t)
  z_abs : mg "abs" = none
  z_bool : mg "bool" = none
  z_int : mg "int" = none
  z_isinstance : mg "isinstance" = none
  z_len : mg "len" = none
  z_list : mg "list" = none
  z_max : mg "max" = none
  z_min : mg "min" = none
  z_range : mg "range" = none
  z_set : mg "set" = none
  z_sorted : mg "sorted" = none
  z_str : mg "str" = none
  z_tuple : mg "tuple" = none
  z_zip : mg "zip" = none
  d_is_int : Def1 B mg "is_int" (top 19) ["value", "low", "high"]
  d_rises : Def1 B mg "rises" (top 20) ["items"]
  d_is_tie : Def1 B mg "is_tie" (top 21) ["places", "value"]
  d_degrees : Def1 B mg "degrees" (top 22) ["places", "ties"]
  d_is_even : Def1 B mg "is_even" (top 23) ["places", "ties"]
  d_is_web_so : Def1 B mg "is_web_so" (top 24) ["value"]
  d_need_web : Def1 B mg "need_web" (top 25) ["value"]
  d_figure_of : Def1 B mg "figure_of" (top 27) ["word"]
  d_text_of : Def1 B mg "text_of" (top 28) ["web"]
  d_web_of : Def1 B mg "web_of" (top 29) ["value"]
  d_web_text : Def1 B mg "web_text" (top 30) ["web"]
  d_read_web : Def1 B mg "read_web" (top 31) ["value"]
  d__law_pot_of : Def1 B mg "_law_pot_of" (top 33) ["script", "k"]
  d__law_dip : Def1 B mg "_law_dip" (top 34) ["pot", "many"]
  d__law_any : Def1 B mg "_law_any" (top 35) ["pot", "things"]
  d__law_are_tied : Def1 B mg "_law_are_tied" (top 36) ["grid", "one", "other"]
  d__law_round : Def1 B mg "_law_round" (top 37) ["many", "paces"]
  d__law_fours : Def1 B mg "_law_fours" (top 38) ["grid"]
  d__law_behind : Def1 B mg "_law_behind" (top 39) ["grid", "four"]
  d__law_drawn : Def1 B mg "_law_drawn" (top 40) ["pot", "low", "high"]
  d__law_kind_of : Def1 B mg "_law_kind_of" (top 42) ["e"]
  d__law_text : Def1 B mg "_law_text" (top 43) ["grid"]
  d__law_due : Def1 B mg "_law_due" (top 44) ["text"]
  d__law_bent : Def1 B mg "_law_bent" (top 45) ["pot", "text"]
  dl__law_read_right : DefL B mg base Tb "_law_read_right" (top 46) ["text"]
  dl_law : DefL B mg base Tb "law" (top 47) ["script"]
  er : ∃ Cs fI, Errs B.K mg L Cs cm ∧ Lims B.K mg cm fI ∧ mg "SpreadError" = some (.ref Cs)
  nms : ∀ m ∈ errNames, ∃ D, clOf L m = some D
  beq : B = Be B.K Tb (clOf L) cm
  lim : LimE B P w mg base "TooMany" 1
  dw : ∃ (g : Addr) (oc : Value) (od : Option Addr) (kV dc pm : Value) (an : Option Addr) (cd ct : Value) (osl : Array (Option Value)), mg "_law_word" = some (.ref g) ∧ PySem.W.keepIn B.K (.ref g) = true ∧ B.K.lookup g = some ⟨oc, od, .func (PySem.W.fnOf "_law_word" "_law_word" (defArgs (top 41)) (defBody (top 41)) (defScope (top 41)) .none kV dc pm an cd ct), osl⟩ ∧ PySem.W.codeIn B.K cd "_law_word" = true
section
variable {B : Bs} {P : Program} {w : World} {mg : Str → Option Value} {base : Heap} {Tb : List (Addr × Str)} {L : List (Str × Addr)} {cm : Addr}
theorem Txt.own (T : Txt B P w mg base Tb L cm) {m : Str} (h : m ∈ errNames) : OwnE B mg m := by
  obtain ⟨Cs, fI, F, _⟩ := T.er
  obtain ⟨D, hD⟩ := T.nms m h
  rw [T.beq]
  exact F.ownE hD
theorem Txt.kit (T : Txt B P w mg base Tb L cm) {nm m : Str} {D : Addr} (h : clOf L nm = some D) (hm : m ∈ errNames) : ∃ C', mg m = some (.ref C') ∧ PySem.W.kitOne B.K (.ref D) (.ref C') = some (m == nm) := by
  obtain ⟨Cs, fI, F, _⟩ := T.er
  obtain ⟨D', hD⟩ := T.nms m hm
  exact F.kit h (clOf_mem hD)
theorem Txt.exc (T : Txt B P w mg base Tb L cm) {nm : Str} {D : Addr} (h : clOf L nm = some D) : ExcC B.K D := by
  obtain ⟨Cs, fI, F, _⟩ := T.er
  exact (F.at h).2.2.2.2.2
abbrev st__law_kind_of : Stmt := top 42
theorem sc__law_kind_of : FnScope ["e", "some", "word", "good"] ["e"] (defScope st__law_kind_of) := ⟨rfl, rfl, rfl, by decide +kernel, rfl, by decide +kernel, by decide +kernel⟩
def fn__law_kind_of (a : Addr) (b : Str → Bool) : Rho → OS := (sSeq (sAsg (.nm 1) (sFrz (sLst (sCons (sTup (sCons (sCon (.str "web")) (sCons (sIsx 0 a (b "InvalidWeb")) sNil))) (sCons (sTup (sCons (sCon (.str "lot")) (sCons (sIsx 0 a (b "InvalidLot")) sNil))) sNil))))) (sSeq (sAsg (.nm 1) (s2 (dBin .Add) (sVar 1) (sFrz (sLst (sCons (sTup (sCons (sCon (.str "place")) (sCons (sIsx 0 a (b "InvalidPlace")) sNil))) (sCons (sTup (sCons (sCon (.str "kind")) (sCons (sIsx 0 a (b "InvalidKind")) sNil))) sNil)))))) (sSeq (sAsg (.nm 1) (s2 (dBin .Add) (sVar 1) (sFrz (sLst (sCons (sTup (sCons (sCon (.str "bound")) (sCons (sIsx 0 a (b "InvalidBound")) sNil))) (sCons (sTup (sCons (sCon (.str "number")) (sCons (sIsx 0 a (b "InvalidNumber")) sNil))) sNil)))))) (sSeq (sAsg (.nm 1) (s2 (dBin .Add) (sVar 1) (sFrz (sLst (sCons (sTup (sCons (sCon (.str "ties")) (sCons (sIsx 0 a (b "InvalidTies")) sNil))) (sCons (sTup (sCons (sCon (.str "steps")) (sCons (sIsx 0 a (b "InvalidSteps")) sNil))) sNil)))))) (sSeq (sAsg (.nm 1) (s2 (dBin .Add) (sVar 1) (sFrz (sLst (sCons (sTup (sCons (sCon (.str "facts")) (sCons (sIsx 0 a (b "InvalidFacts")) sNil))) (sCons (sTup (sCons (sCon (.str "switch")) (sCons (sIsx 0 a (b "InvalidSwitch")) sNil))) sNil)))))) (sSeq (sAsg (.nm 1) (s2 (dBin .Add) (sVar 1) (sFrz (sLst (sCons (sTup (sCons (sCon (.str "text")) (sCons (sIsx 0 a (b "InvalidText")) sNil))) (sCons (sTup (sCons (sCon (.str "unlike")) (sCons (sIsx 0 a (b "Unlike")) sNil))) sNil)))))) (sSeq (sAsg (.nm 1) (s2 (dBin .Add) (sVar 1) (sFrz (sLst (sCons (sTup (sCons (sCon (.str "undo")) (sCons (sIsx 0 a (b "NothingToUndo")) sNil))) sNil))))) (sSeq (sRet (sM1 dJoin (sCon (.str " ")) (sFrz (sLc (.tp [2, 3]) [2, 3] (sItemsL (sVar 1)) (sVar 3) (sVar 2))))) sSkip))))))))
theorem body__law_kind_of (T : Txt B P w mg base Tb L cm) : ∀ (f : Addr) (nm : Str) (D : Addr) (cdv : Value) (A : Around) (outer : List Env) (t : Shared) (H : Hp) (E : XK) (p : Addr × Obj), clOf L nm = some D → Zc (.ref D) none p.2 → (∃ us, p.2.data = .fields us) → HotY.HotS (L2H.cxH CX0 P w B.K mg base ["e", "some", "word", "good"] "_law_kind_of" (defScope st__law_kind_of) f cdv A outer t H E p) → L2H.RoomH 0 (A.deeper (envOfC "_law_kind_of" (defScope st__law_kind_of) t.heap.objs.size f cdv)) → PSs (L2H.cxH CX0 P w B.K mg base ["e", "some", "word", "good"] "_law_kind_of" (defScope st__law_kind_of) f cdv A outer t H E p) (defBody st__law_kind_of) (tSt B wNo (fn__law_kind_of p.1 fun m => m == nm)) := fun f nm D cdv A outer t H E p hnm hz hf hot hr => by
  have S := sc__law_kind_of
  have hp : p ∈ (L2H.cxH CX0 P w B.K mg base ["e", "some", "word", "good"] "_law_kind_of" (defScope st__law_kind_of) f cdv A outer t H E p).pn := List.mem_singleton.mpr rfl
  have hE := T.exc hnm
  exact (q_cons (gq_asg (g_frz (r_lst (g_cons (r_tup (g_cons r_str (g_cons (g_isk 0 hp hE hz hf T.z_isinstance (T.kit hnm (m := "InvalidWeb") (by simp))) r_nil))) (g_cons (r_tup (g_cons r_str (g_cons (g_isk 0 hp hE hz hf T.z_isinstance (T.kit hnm (m := "InvalidLot") (by simp))) r_nil))) r_nil)))) (gg_name 1 S.nd)) (q_cons (gq_asg (g_bin rfl (g_var 1) (g_frz (r_lst (g_cons (r_tup (g_cons r_str (g_cons (g_isk 0 hp hE hz hf T.z_isinstance (T.kit hnm (m := "InvalidPlace") (by simp))) r_nil))) (g_cons (r_tup (g_cons r_str (g_cons (g_isk 0 hp hE hz hf T.z_isinstance (T.kit hnm (m := "InvalidKind") (by simp))) r_nil))) r_nil))))) (gg_name 1 S.nd)) (q_cons (gq_asg (g_bin rfl (g_var 1) (g_frz (r_lst (g_cons (r_tup (g_cons r_str (g_cons (g_isk 0 hp hE hz hf T.z_isinstance (T.kit hnm (m := "InvalidBound") (by simp))) r_nil))) (g_cons (r_tup (g_cons r_str (g_cons (g_isk 0 hp hE hz hf T.z_isinstance (T.kit hnm (m := "InvalidNumber") (by simp))) r_nil))) r_nil))))) (gg_name 1 S.nd)) (q_cons (gq_asg (g_bin rfl (g_var 1) (g_frz (r_lst (g_cons (r_tup (g_cons r_str (g_cons (g_isk 0 hp hE hz hf T.z_isinstance (T.kit hnm (m := "InvalidTies") (by simp))) r_nil))) (g_cons (r_tup (g_cons r_str (g_cons (g_isk 0 hp hE hz hf T.z_isinstance (T.kit hnm (m := "InvalidSteps") (by simp))) r_nil))) r_nil))))) (gg_name 1 S.nd)) (q_cons (gq_asg (g_bin rfl (g_var 1) (g_frz (r_lst (g_cons (r_tup (g_cons r_str (g_cons (g_isk 0 hp hE hz hf T.z_isinstance (T.kit hnm (m := "InvalidFacts") (by simp))) r_nil))) (g_cons (r_tup (g_cons r_str (g_cons (g_isk 0 hp hE hz hf T.z_isinstance (T.kit hnm (m := "InvalidSwitch") (by simp))) r_nil))) r_nil))))) (gg_name 1 S.nd)) (q_cons (gq_asg (g_bin rfl (g_var 1) (g_frz (r_lst (g_cons (r_tup (g_cons r_str (g_cons (g_isk 0 hp hE hz hf T.z_isinstance (T.kit hnm (m := "InvalidText") (by simp))) r_nil))) (g_cons (r_tup (g_cons r_str (g_cons (g_isk 0 hp hE hz hf T.z_isinstance (T.kit hnm (m := "Unlike") (by simp))) r_nil))) r_nil))))) (gg_name 1 S.nd)) (q_cons (gq_asg (g_bin rfl (g_var 1) (g_frz (r_lst (g_cons (r_tup (g_cons r_str (g_cons (g_isk 0 hp hE hz hf T.z_isinstance (T.kit hnm (m := "NothingToUndo") (by simp))) r_nil))) r_nil)))) (gg_name 1 S.nd)) (q_cons (q_ret (g_join rfl r_str (g_frz (g_lcS [("word", 2), ("good", 3)] hot S.nd (gi_itemsS rfl (g_var 1)) (fun _ _ _ _ _ hot2 => (rg_tupS rfl hot2 (ggs_cons 2 S.nd (ggs_cons 3 S.nd rgs_nil)))) (fun _ _ _ _ _ hot2 => (rp_one (gt_val (g_var 3)))) (fun _ _ _ _ _ hot2 => (g_var 2)))))) q_nil))))))))
theorem kw_gen (a : Addr) (b : Str → Bool) : fn__law_kind_of a b (start0 4 [.raw (.ref a)]) = kwEnd [some (.raw (.ref a)), some (.dat (.list (kwPairs b))), none, none] := by
  have h : ∀ x y z (b : Bool), (sIsx 0 a b : Rho → O D) (some (C.raw (V.ref a)) :: x :: y :: z) = .ok (.bool b) (some (C.raw (V.ref a)) :: x :: y :: z) := fun x y z b => isx_at 0 a b _ rfl
  unfold fn__law_kind_of
  simp only [sSeq, OS.bind, O.run, O.bind, sRet, sRetO, sRetN, sSkip, sNever, sExpr, sIf, sAsg, Rf.bindT, Rf.bindN, Rf.bindL, sAsgO, Rf.ownN, sPar, sParO, sVar, sCon, sNil, sCons, sTup, sLst, sFrz, s2, lift, dBin, bCmp, sCmp2, sAnd, sOr, sNot, sIte, sNeg, dIx, sIxv, sSl, sPart, dSl, sItems, dItems, sRng, sZip, sCall, dLen, dMax, dMin, dInt, dAbs, dTuple, sIsi, sCallD_mD, sCallR_mR, heldAt, setL, sItem, sApp, runD, runR, start0, argsR, refAt0, refC, Option.bind, Option.map, List.map_cons, List.map_nil, List.length_cons, List.length_nil, List.replicate, List.cons_append, List.nil_append, List.getElem?_cons_zero, List.getElem?_cons_succ, List.set_cons_zero, List.set_cons_succ, Nat.reduceAdd, Nat.reduceSub, reduceIte, Nat.reduceLeDiff, Nat.add_zero, Nat.zero_add, kwEnd, h]
  rfl
theorem kw_ok {cl : Str → Option Addr} : KwOk cl 4 fn__law_kind_of kwd := kwok_of kw_gen
abbrev st__law_word : Stmt := top 41
theorem sc__law_word : FnScope wordN ["call"] (defScope st__law_word) := ⟨rfl, rfl, rfl, by decide +kernel, rfl, by decide +kernel, by decide +kernel⟩
theorem word_d (T : Txt B P w mg base Tb L cm) : WordD B P w mg base (clOf L) cm 4 fn__law_kind_of := by
  obtain ⟨fK, fdK, FK, bK, mK⟩ := T.d__law_kind_of.ex
  obtain ⟨g, oc, od, kV, dc, pm, an, cd, ct, osl, h1, h2, h3, h4⟩ := T.dw
  obtain ⟨Cs, fI, F, M, hS⟩ := T.er
  have Fg := fun_mk (st := st__law_word) h3 h4 h2
  refine ⟨g, defArgs st__law_word, defBody st__law_word, defScope st__law_word, .none, kV, dc, pm, cd, ct, oc, an, od, osl, wordN, h1, h2, h3, h4, Fg.binds (ps := ["call"]) (fun _ _ _ _ _ _ us hl => match us, hl with | [_], _ => rfl), sc__law_word, rfl, .inl rfl, fun X hK hm hP hw hb hr => ?_⟩
  subst hm hP hw hb
  exact word_gives hK F M hS T.z_str (good_K (N := ["e", "some", "word", "good"]) FK sc__law_kind_of fun nm D cdv A outer t H E p a1 a2 a3 a4 a5 => body__law_kind_of T fK nm D cdv A outer t H E p a1 a2 a3 a4 a5) mK FK.kp bK ⟨rfl, rfl, rfl, rfl, rfl, rfl, rfl⟩ hr
abbrev st_is_int : Stmt := top 19
theorem sc_is_int : FnScope ["value", "low", "high"] ["value", "low", "high"] (defScope st_is_int) := ⟨rfl, rfl, rfl, by decide +kernel, rfl, by decide +kernel, by decide +kernel⟩
def fn_is_int  : Rho → OS := (sSeq (sRet (sAnd (sIsi (sVar 0) "int") (sAnd (sNot (sIsi (sVar 0) "bool")) (sCmp2 .LtE .LtE (sVar 1) (sVar 0) (sVar 2))))) sSkip)
theorem body_is_int {k : Nat} (T : Txt B P w mg base Tb L cm)   : ∀ (f : Addr) (cdv : Value) (A : Around) (outer : List Env) (s : Shared) (H : Hp) (E : XK), Room k (A.deeper (envOfC "is_int" (defScope st_is_int) s.heap.objs.size f cdv)) → PSs (cxOf (L2N.CX P w) P w B.K mg base ["value", "low", "high"] "is_int" (defScope st_is_int) f cdv A outer s H E) (defBody st_is_int) (tSt B (wishOf E) (fn_is_int)) := fun f cdv A outer s H E hr => by
  have S := sc_is_int
  have hu := room_u hr
  have tk : L2N.Takes (cxOf (L2N.CX P w) P w B.K mg base ["value", "low", "high"] "is_int" (defScope st_is_int) f cdv A outer s H E) (wishOf E) := L2N.takes_of rfl rfl rfl rfl
  have hp : PassesOwn (model P w) (A.deeper (envOfC "is_int" (defScope st_is_int) s.heap.objs.size f cdv)) (envOfC "is_int" (defScope st_is_int) s.heap.objs.size f cdv) (cxOf (L2N.CX P w) P w B.K mg base ["value", "low", "high"] "is_int" (defScope st_is_int) f cdv A outer s H E).xe := passes_of rfl
  exact (q_cons (q_ret (r_and (pos' := ⟨0, 0, 0, 0⟩) (g_isi rfl T.z_isinstance T.z_int (g_var 0)) (r_and (pos' := ⟨0, 0, 0, 0⟩) (r_not (g_isi rfl T.z_isinstance T.z_bool (g_var 0))) (pe_one (g_cmp2 rfl hu (g_var 1) (g_var 0) (g_var 2)))))) q_nil)
theorem ok_is_int {k : Nat} (T : Txt B P w mg base Tb L cm)   : FnGood B P w mg base (k + 1) "is_int" 3 (mD (runD 3 3 (fn_is_int))) :=
  good_D1 T.d_is_int sc_is_int (body_is_int T)
abbrev st_rises : Stmt := top 20
theorem sc_rises : FnScope ["items", "one", "other"] ["items"] (defScope st_rises) := ⟨rfl, rfl, rfl, by decide +kernel, rfl, by decide +kernel, by decide +kernel⟩
def fn_rises  : Rho → OS := (sSeq (sRet (s2 (bCmp .Eq) (sFrz (sLc (.tp [1, 2]) [1, 2] (sZip (sCons (sVar 0) (sCons (sSl (sVar 0) (sPart (some (sCon (.int 1)))) (sPart none)) sNil))) (sNot (s2 (bCmp .Lt) (sVar 1) (sVar 2))) (sCon (.int 1)))) (sFrz (sLst sNil)))) sSkip)
theorem body_rises {k : Nat} (T : Txt B P w mg base Tb L cm)   : ∀ (f : Addr) (cdv : Value) (A : Around) (outer : List Env) (s : Shared) (H : Hp) (E : XK), Room k (A.deeper (envOfC "rises" (defScope st_rises) s.heap.objs.size f cdv)) → PSs (cxOf (L2N.CX P w) P w B.K mg base ["items", "one", "other"] "rises" (defScope st_rises) f cdv A outer s H E) (defBody st_rises) (tSt B (wishOf E) (fn_rises)) := fun f cdv A outer s H E hr => by
  have S := sc_rises
  have hu := room_u hr
  have tk : L2N.Takes (cxOf (L2N.CX P w) P w B.K mg base ["items", "one", "other"] "rises" (defScope st_rises) f cdv A outer s H E) (wishOf E) := L2N.takes_of rfl rfl rfl rfl
  have hp : PassesOwn (model P w) (A.deeper (envOfC "rises" (defScope st_rises) s.heap.objs.size f cdv)) (envOfC "rises" (defScope st_rises) s.heap.objs.size f cdv) (cxOf (L2N.CX P w) P w B.K mg base ["items", "one", "other"] "rises" (defScope st_rises) f cdv A outer s H E).xe := passes_of rfl
  exact (q_cons (q_ret (g_cmp rfl hu (g_frz (g_lc [("one", 1), ("other", 2)] rfl S.nd (gi_zip rfl T.z_zip (g_var 0) (r_sl rfl (g_var 0) (rp_some r_int) rp_none)) (fun _ _ _ _ _ => (gg_tup rfl rfl (ggs_cons 1 S.nd (ggs_cons 2 S.nd rgs_nil)))) (fun _ _ _ _ _ => (rp_one (rt_not (gt_cmp rfl hu (g_var 1) (g_var 2))))) (fun _ _ _ _ _ => r_int))) (g_frz (r_lst r_nil)))) q_nil)
theorem ok_rises {k : Nat} (T : Txt B P w mg base Tb L cm)   : FnGood B P w mg base (k + 1) "rises" 1 (mD (runD 1 3 (fn_rises))) :=
  good_D1 T.d_rises sc_rises (body_rises T)
abbrev st_is_tie : Stmt := top 21
theorem sc_is_tie : FnScope ["places", "value"] ["places", "value"] (defScope st_is_tie) := ⟨rfl, rfl, rfl, by decide +kernel, rfl, by decide +kernel, by decide +kernel⟩
def fn_is_tie (c_is_int : List D → FD) : Rho → OS := (sSeq (sIf (sOr (sNot (sIsi (sVar 1) "tuple")) (sOr (s2 (bCmp .NotEq) (sCall dLen (sCons (sVar 1) sNil)) (sCon (.int 2))) (sNot (sCallD (mD c_is_int) (sCons (s2 dIx (sVar 1) (sCon (.int 0))) (sCons (sCon (.int 0)) (sCons (s2 (dBin .Sub) (sVar 0) (sCon (.int 1))) sNil))))))) (sSeq (sRet (sCon (.bool false))) sSkip) sSkip) (sSeq (sRet (sCallD (mD c_is_int) (sCons (s2 dIx (sVar 1) (sCon (.int 1))) (sCons (s2 (dBin .Add) (s2 dIx (sVar 1) (sCon (.int 0))) (sCon (.int 1))) (sCons (s2 (dBin .Sub) (sVar 0) (sCon (.int 1))) sNil))))) sSkip))
theorem body_is_tie {k : Nat} (T : Txt B P w mg base Tb L cm) (c_is_int : List D → FD) {l_is_int : Nat} (h_is_int : FnGood B P w mg base l_is_int "is_int" 3 (mD c_is_int)) (le_is_int : l_is_int ≤ k) : ∀ (f : Addr) (cdv : Value) (A : Around) (outer : List Env) (s : Shared) (H : Hp) (E : XK), Room k (A.deeper (envOfC "is_tie" (defScope st_is_tie) s.heap.objs.size f cdv)) → PSs (cxOf (L2N.CX P w) P w B.K mg base ["places", "value"] "is_tie" (defScope st_is_tie) f cdv A outer s H E) (defBody st_is_tie) (tSt B (wishOf E) (fn_is_tie c_is_int)) := fun f cdv A outer s H E hr => by
  have S := sc_is_tie
  have hu := room_u hr
  have tk : L2N.Takes (cxOf (L2N.CX P w) P w B.K mg base ["places", "value"] "is_tie" (defScope st_is_tie) f cdv A outer s H E) (wishOf E) := L2N.takes_of rfl rfl rfl rfl
  have hp : PassesOwn (model P w) (A.deeper (envOfC "is_tie" (defScope st_is_tie) s.heap.objs.size f cdv)) (envOfC "is_tie" (defScope st_is_tie) s.heap.objs.size f cdv) (cxOf (L2N.CX P w) P w B.K mg base ["places", "value"] "is_tie" (defScope st_is_tie) f cdv A outer s H E).xe := passes_of rfl
  exact (q_cons (q_if (L2.PW.pt (rt_or (rt_not (gt_val (g_isi rfl T.z_isinstance T.z_tuple (g_var 1)))) (rt_or (gt_cmp rfl hu (g_callB (c_len rfl) T.z_len (g_cons (g_var 1) r_nil)) r_int) (pw_or1 (rt_not (gt_val (g_callD rfl h_is_int (hr.mono le_is_int) tk (g_cons (g_ix rfl (g_var 1) r_int) (g_cons r_int (g_cons (g_bin rfl (g_var 0) r_int) r_nil)))))))))) (q_cons (q_ret r_bl) q_nil) q_nil) (q_cons (q_ret (g_callD rfl h_is_int (hr.mono le_is_int) tk (g_cons (g_ix rfl (g_var 1) r_int) (g_cons (g_bin rfl (g_ix rfl (g_var 1) r_int) r_int) (g_cons (g_bin rfl (g_var 0) r_int) r_nil))))) q_nil))
theorem ok_is_tie {k : Nat} (T : Txt B P w mg base Tb L cm) (c_is_int : List D → FD) {l_is_int : Nat} (h_is_int : FnGood B P w mg base l_is_int "is_int" 3 (mD c_is_int)) (le_is_int : l_is_int ≤ k) : FnGood B P w mg base (k + 1) "is_tie" 2 (mD (runD 2 2 (fn_is_tie c_is_int))) :=
  good_D1 T.d_is_tie sc_is_tie (body_is_tie T c_is_int h_is_int le_is_int)
abbrev st_degrees : Stmt := top 22
theorem sc_degrees : FnScope ["places", "ties", "place", "tie"] ["places", "ties"] (defScope st_degrees) := ⟨rfl, rfl, rfl, by decide +kernel, rfl, by decide +kernel, by decide +kernel⟩
def fn_degrees  : Rho → OS := (sSeq (sRet (sFrz (sLc (.nm 2) [2] (sRng (sCons (sVar 0) sNil)) sYes (sCall dLen (sCons (sFrz (sLc (.nm 3) [3] (sItems (sVar 1)) (s2 (bCmp .In) (sVar 2) (sVar 3)) (sVar 3))) sNil))))) sSkip)
theorem body_degrees {k : Nat} (T : Txt B P w mg base Tb L cm)   : ∀ (f : Addr) (cdv : Value) (A : Around) (outer : List Env) (s : Shared) (H : Hp) (E : XK), Room k (A.deeper (envOfC "degrees" (defScope st_degrees) s.heap.objs.size f cdv)) → PSs (cxOf (L2N.CX P w) P w B.K mg base ["places", "ties", "place", "tie"] "degrees" (defScope st_degrees) f cdv A outer s H E) (defBody st_degrees) (tSt B (wishOf E) (fn_degrees)) := fun f cdv A outer s H E hr => by
  have S := sc_degrees
  have hu := room_u hr
  have tk : L2N.Takes (cxOf (L2N.CX P w) P w B.K mg base ["places", "ties", "place", "tie"] "degrees" (defScope st_degrees) f cdv A outer s H E) (wishOf E) := L2N.takes_of rfl rfl rfl rfl
  have hp : PassesOwn (model P w) (A.deeper (envOfC "degrees" (defScope st_degrees) s.heap.objs.size f cdv)) (envOfC "degrees" (defScope st_degrees) s.heap.objs.size f cdv) (cxOf (L2N.CX P w) P w B.K mg base ["places", "ties", "place", "tie"] "degrees" (defScope st_degrees) f cdv A outer s H E).xe := passes_of rfl
  exact (q_cons (q_ret (g_frz (g_lc [("place", 2)] rfl S.nd (gi_rng1 T.z_range (g_var 0)) (fun _ _ _ _ _ => (gg_name 2 S.nd)) (fun _ _ _ _ _ => rp_nil) (fun _ _ _ _ _ => (g_callB (c_len rfl) T.z_len (g_cons (g_frz (g_lc [("tie", 3)] rfl S.nd (ri_items rfl (g_var 1)) (fun _ _ _ _ _ => (gg_name 3 S.nd)) (fun _ _ _ _ _ => (rp_one (gt_cmp rfl hu (g_var 2) (g_var 3)))) (fun _ _ _ _ _ => (g_var 3)))) r_nil)))))) q_nil)
theorem ok_degrees {k : Nat} (T : Txt B P w mg base Tb L cm)   : FnGood B P w mg base (k + 1) "degrees" 2 (mD (runD 2 4 (fn_degrees))) :=
  good_D1 T.d_degrees sc_degrees (body_degrees T)
abbrev st_is_even : Stmt := top 23
theorem sc_is_even : FnScope ["places", "ties", "some", "many"] ["places", "ties"] (defScope st_is_even) := ⟨rfl, rfl, rfl, by decide +kernel, rfl, by decide +kernel, by decide +kernel⟩
def fn_is_even (c_degrees : List D → FD) : Rho → OS := (sSeq (sAsg (.nm 2) (sCallD (mD c_degrees) (sCons (sVar 0) (sCons (sVar 1) sNil)))) (sSeq (sRet (sAnd (s2 (bCmp .Gt) (s2 dIx (sVar 2) (sCon (.int 0))) (sCon (.int 0))) (s2 (bCmp .Eq) (sFrz (sLc (.nm 3) [3] (sItems (sVar 2)) (s2 (bCmp .NotEq) (sVar 3) (s2 dIx (sVar 2) (sCon (.int 0)))) (sVar 3))) (sFrz (sLst sNil))))) sSkip))
theorem body_is_even {k : Nat} (T : Txt B P w mg base Tb L cm) (c_degrees : List D → FD) {l_degrees : Nat} (h_degrees : FnGood B P w mg base l_degrees "degrees" 2 (mD c_degrees)) (le_degrees : l_degrees ≤ k) : ∀ (f : Addr) (cdv : Value) (A : Around) (outer : List Env) (s : Shared) (H : Hp) (E : XK), Room k (A.deeper (envOfC "is_even" (defScope st_is_even) s.heap.objs.size f cdv)) → PSs (cxOf (L2N.CX P w) P w B.K mg base ["places", "ties", "some", "many"] "is_even" (defScope st_is_even) f cdv A outer s H E) (defBody st_is_even) (tSt B (wishOf E) (fn_is_even c_degrees)) := fun f cdv A outer s H E hr => by
  have S := sc_is_even
  have hu := room_u hr
  have tk : L2N.Takes (cxOf (L2N.CX P w) P w B.K mg base ["places", "ties", "some", "many"] "is_even" (defScope st_is_even) f cdv A outer s H E) (wishOf E) := L2N.takes_of rfl rfl rfl rfl
  have hp : PassesOwn (model P w) (A.deeper (envOfC "is_even" (defScope st_is_even) s.heap.objs.size f cdv)) (envOfC "is_even" (defScope st_is_even) s.heap.objs.size f cdv) (cxOf (L2N.CX P w) P w B.K mg base ["places", "ties", "some", "many"] "is_even" (defScope st_is_even) f cdv A outer s H E).xe := passes_of rfl
  exact (q_cons (gq_asg (g_callD rfl h_degrees (hr.mono le_degrees) tk (g_cons (g_var 0) (g_cons (g_var 1) r_nil))) (gg_name 2 S.nd)) (q_cons (q_ret (r_and (pos' := ⟨0, 0, 0, 0⟩) (g_cmp rfl hu (g_ix rfl (g_var 2) r_int) r_int) (pe_one (g_cmp rfl hu (g_frz (g_lc [("many", 3)] rfl S.nd (ri_items rfl (g_var 2)) (fun _ _ _ _ _ => (gg_name 3 S.nd)) (fun _ _ _ _ _ => (rp_one (gt_cmp rfl hu (g_var 3) (g_ix rfl (g_var 2) r_int)))) (fun _ _ _ _ _ => (g_var 3)))) (g_frz (r_lst r_nil)))))) q_nil))
theorem ok_is_even {k : Nat} (T : Txt B P w mg base Tb L cm) (c_degrees : List D → FD) {l_degrees : Nat} (h_degrees : FnGood B P w mg base l_degrees "degrees" 2 (mD c_degrees)) (le_degrees : l_degrees ≤ k) : FnGood B P w mg base (k + 1) "is_even" 2 (mD (runD 2 4 (fn_is_even c_degrees))) :=
  good_D1 T.d_is_even sc_is_even (body_is_even T c_degrees h_degrees le_degrees)
abbrev st_is_web_so : Stmt := top 24
theorem sc_is_web_so : FnScope ["value", "tie"] ["value"] (defScope st_is_web_so) := ⟨rfl, rfl, rfl, by decide +kernel, rfl, by decide +kernel, by decide +kernel⟩
def fn_is_web_so (c_is_int : List D → FD) (c_rises : List D → FD) (c_is_tie : List D → FD) (c_is_even : List D → FD) : Rho → OS := (sSeq (sIf (sOr (sNot (sIsi (sVar 0) "tuple")) (sOr (s2 (bCmp .NotEq) (sCall dLen (sCons (sVar 0) sNil)) (sCon (.int 2))) (sNot (sCallD (mD c_is_int) (sCons (s2 dIx (sVar 0) (sCon (.int 0))) (sCons (sCon (.int 3)) (sCons (sCon (.int 8)) sNil))))))) (sSeq (sRet (sCon (.bool false))) sSkip) sSkip) (sSeq (sIf (sOr (sNot (sIsi (s2 dIx (sVar 0) (sCon (.int 1))) "tuple")) (s2 (bCmp .NotEq) (sFrz (sLc (.nm 1) [1] (sItems (s2 dIx (sVar 0) (sCon (.int 1)))) (sNot (sCallD (mD c_is_tie) (sCons (s2 dIx (sVar 0) (sCon (.int 0))) (sCons (sVar 1) sNil)))) (sVar 1))) (sFrz (sLst sNil)))) (sSeq (sRet (sCon (.bool false))) sSkip) sSkip) (sSeq (sRet (sAnd (sCallD (mD c_rises) (sCons (s2 dIx (sVar 0) (sCon (.int 1))) sNil)) (sCallD (mD c_is_even) (sCons (s2 dIx (sVar 0) (sCon (.int 0))) (sCons (s2 dIx (sVar 0) (sCon (.int 1))) sNil))))) sSkip)))
theorem body_is_web_so {k : Nat} (T : Txt B P w mg base Tb L cm) (c_is_int : List D → FD) (c_rises : List D → FD) (c_is_tie : List D → FD) (c_is_even : List D → FD) {l_is_int : Nat} (h_is_int : FnGood B P w mg base l_is_int "is_int" 3 (mD c_is_int)) (le_is_int : l_is_int ≤ k) {l_rises : Nat} (h_rises : FnGood B P w mg base l_rises "rises" 1 (mD c_rises)) (le_rises : l_rises ≤ k) {l_is_tie : Nat} (h_is_tie : FnGood B P w mg base l_is_tie "is_tie" 2 (mD c_is_tie)) (le_is_tie : l_is_tie ≤ k) {l_is_even : Nat} (h_is_even : FnGood B P w mg base l_is_even "is_even" 2 (mD c_is_even)) (le_is_even : l_is_even ≤ k) : ∀ (f : Addr) (cdv : Value) (A : Around) (outer : List Env) (s : Shared) (H : Hp) (E : XK), Room k (A.deeper (envOfC "is_web_so" (defScope st_is_web_so) s.heap.objs.size f cdv)) → PSs (cxOf (L2N.CX P w) P w B.K mg base ["value", "tie"] "is_web_so" (defScope st_is_web_so) f cdv A outer s H E) (defBody st_is_web_so) (tSt B (wishOf E) (fn_is_web_so c_is_int c_rises c_is_tie c_is_even)) := fun f cdv A outer s H E hr => by
  have S := sc_is_web_so
  have hu := room_u hr
  have tk : L2N.Takes (cxOf (L2N.CX P w) P w B.K mg base ["value", "tie"] "is_web_so" (defScope st_is_web_so) f cdv A outer s H E) (wishOf E) := L2N.takes_of rfl rfl rfl rfl
  have hp : PassesOwn (model P w) (A.deeper (envOfC "is_web_so" (defScope st_is_web_so) s.heap.objs.size f cdv)) (envOfC "is_web_so" (defScope st_is_web_so) s.heap.objs.size f cdv) (cxOf (L2N.CX P w) P w B.K mg base ["value", "tie"] "is_web_so" (defScope st_is_web_so) f cdv A outer s H E).xe := passes_of rfl
  exact (q_cons (q_if (L2.PW.pt (rt_or (rt_not (gt_val (g_isi rfl T.z_isinstance T.z_tuple (g_var 0)))) (rt_or (gt_cmp rfl hu (g_callB (c_len rfl) T.z_len (g_cons (g_var 0) r_nil)) r_int) (pw_or1 (rt_not (gt_val (g_callD rfl h_is_int (hr.mono le_is_int) tk (g_cons (g_ix rfl (g_var 0) r_int) (g_cons (g_gint T.c_LEAST_PLACES) (g_cons (g_gint T.c_MOST_PLACES) r_nil)))))))))) (q_cons (q_ret r_bl) q_nil) q_nil) (q_cons (q_if (L2.PW.pt (rt_or (rt_not (gt_val (g_isi rfl T.z_isinstance T.z_tuple (g_ix rfl (g_var 0) r_int)))) (pw_or1 (gt_cmp rfl hu (g_frz (g_lc [("tie", 1)] rfl S.nd (ri_items rfl (g_ix rfl (g_var 0) r_int)) (fun _ _ _ _ _ => (gg_name 1 S.nd)) (fun _ _ _ _ _ => (rp_one (rt_not (gt_val (g_callD rfl h_is_tie (hr.mono le_is_tie) takesN0 (g_cons (g_ix rfl (g_var 0) r_int) (g_cons (g_var 1) r_nil))))))) (fun _ _ _ _ _ => (g_var 1)))) (g_frz (r_lst r_nil)))))) (q_cons (q_ret r_bl) q_nil) q_nil) (q_cons (q_ret (r_and (pos' := ⟨0, 0, 0, 0⟩) (g_callD rfl h_rises (hr.mono le_rises) tk (g_cons (g_ix rfl (g_var 0) r_int) r_nil)) (pe_one (g_callD rfl h_is_even (hr.mono le_is_even) tk (g_cons (g_ix rfl (g_var 0) r_int) (g_cons (g_ix rfl (g_var 0) r_int) r_nil)))))) q_nil)))
theorem ok_is_web_so {k : Nat} (T : Txt B P w mg base Tb L cm) (c_is_int : List D → FD) (c_rises : List D → FD) (c_is_tie : List D → FD) (c_is_even : List D → FD) {l_is_int : Nat} (h_is_int : FnGood B P w mg base l_is_int "is_int" 3 (mD c_is_int)) (le_is_int : l_is_int ≤ k) {l_rises : Nat} (h_rises : FnGood B P w mg base l_rises "rises" 1 (mD c_rises)) (le_rises : l_rises ≤ k) {l_is_tie : Nat} (h_is_tie : FnGood B P w mg base l_is_tie "is_tie" 2 (mD c_is_tie)) (le_is_tie : l_is_tie ≤ k) {l_is_even : Nat} (h_is_even : FnGood B P w mg base l_is_even "is_even" 2 (mD c_is_even)) (le_is_even : l_is_even ≤ k) : FnGood B P w mg base (k + 1) "is_web_so" 1 (mD (runD 1 2 (fn_is_web_so c_is_int c_rises c_is_tie c_is_even))) :=
  good_D1 T.d_is_web_so sc_is_web_so (body_is_web_so T c_is_int c_rises c_is_tie c_is_even h_is_int le_is_int h_rises le_rises h_is_tie le_is_tie h_is_even le_is_even)
abbrev st_need_web : Stmt := top 25
theorem sc_need_web : FnScope ["value"] ["value"] (defScope st_need_web) := ⟨rfl, rfl, rfl, by decide +kernel, rfl, by decide +kernel, by decide +kernel⟩
def fn_need_web (c_is_web_so : List D → FD) : Rho → OS := (sSeq (sIf (sNot (sCallD (mD c_is_web_so) (sCons (sVar 0) sNil))) (sSeq (sRaise "InvalidWeb") sSkip) sSkip) sSkip)
theorem body_need_web {k : Nat} (T : Txt B P w mg base Tb L cm) (c_is_web_so : List D → FD) {l_is_web_so : Nat} (h_is_web_so : FnGood B P w mg base l_is_web_so "is_web_so" 1 (mD c_is_web_so)) (le_is_web_so : l_is_web_so ≤ k) : ∀ (f : Addr) (cdv : Value) (A : Around) (outer : List Env) (s : Shared) (H : Hp) (E : XK), Room k (A.deeper (envOfC "need_web" (defScope st_need_web) s.heap.objs.size f cdv)) → PSs (cxOf (L2N.CX P w) P w B.K mg base ["value"] "need_web" (defScope st_need_web) f cdv A outer s H E) (defBody st_need_web) (tSt B (wishOf E) (fn_need_web c_is_web_so)) := fun f cdv A outer s H E hr => by
  have S := sc_need_web
  have hu := room_u hr
  have tk : L2N.Takes (cxOf (L2N.CX P w) P w B.K mg base ["value"] "need_web" (defScope st_need_web) f cdv A outer s H E) (wishOf E) := L2N.takes_of rfl rfl rfl rfl
  have hp : PassesOwn (model P w) (A.deeper (envOfC "need_web" (defScope st_need_web) s.heap.objs.size f cdv)) (envOfC "need_web" (defScope st_need_web) s.heap.objs.size f cdv) (cxOf (L2N.CX P w) P w B.K mg base ["value"] "need_web" (defScope st_need_web) f cdv A outer s H E).xe := passes_of rfl
  exact (q_cons (q_if (rt_not (gt_val (g_callD rfl h_is_web_so (hr.mono le_is_web_so) tk (g_cons (g_var 0) r_nil)))) (q_cons (g_raise rfl rfl tk (T.own (m := "InvalidWeb") (by simp))) q_nil) q_nil) q_nil)
theorem ok_need_web {k : Nat} (T : Txt B P w mg base Tb L cm) (c_is_web_so : List D → FD) {l_is_web_so : Nat} (h_is_web_so : FnGood B P w mg base l_is_web_so "is_web_so" 1 (mD c_is_web_so)) (le_is_web_so : l_is_web_so ≤ k) : FnGood B P w mg base (k + 1) "need_web" 1 (mD (runD 1 1 (fn_need_web c_is_web_so))) :=
  good_D1 T.d_need_web sc_need_web (body_need_web T c_is_web_so h_is_web_so le_is_web_so)
abbrev st_figure_of : Stmt := top 27
theorem sc_figure_of : FnScope ["word"] ["word"] (defScope st_figure_of) := ⟨rfl, rfl, rfl, by decide +kernel, rfl, by decide +kernel, by decide +kernel⟩
def fn_figure_of  : Rho → OS := (sSeq (sRet (sIte (sAnd (s2 (bCmp .Eq) (sCall dLen (sCons (sVar 0) sNil)) (sCon (.int 1))) (s2 (bCmp .In) (sVar 0) (sCon (.str "0123456789")))) (sCall dIntS (sCons (sVar 0) sNil)) (sCon .none))) sSkip)
theorem body_figure_of {k : Nat} (T : Txt B P w mg base Tb L cm)   : ∀ (f : Addr) (cdv : Value) (A : Around) (outer : List Env) (s : Shared) (H : Hp) (E : XK), Room k (A.deeper (envOfC "figure_of" (defScope st_figure_of) s.heap.objs.size f cdv)) → PSs (cxOf (L2N.CX P w) P w B.K mg base ["word"] "figure_of" (defScope st_figure_of) f cdv A outer s H E) (defBody st_figure_of) (tSt B (wishOf E) (fn_figure_of)) := fun f cdv A outer s H E hr => by
  have S := sc_figure_of
  have hu := room_u hr
  have tk : L2N.Takes (cxOf (L2N.CX P w) P w B.K mg base ["word"] "figure_of" (defScope st_figure_of) f cdv A outer s H E) (wishOf E) := L2N.takes_of rfl rfl rfl rfl
  have hp : PassesOwn (model P w) (A.deeper (envOfC "figure_of" (defScope st_figure_of) s.heap.objs.size f cdv)) (envOfC "figure_of" (defScope st_figure_of) s.heap.objs.size f cdv) (cxOf (L2N.CX P w) P w B.K mg base ["word"] "figure_of" (defScope st_figure_of) f cdv A outer s H E).xe := passes_of rfl
  exact (q_cons (q_ret (r_ite (L2.PW.pt (rt_and (gt_cmp rfl hu (g_callB (c_len rfl) T.z_len (g_cons (g_var 0) r_nil)) r_int) (pw_and1 (gt_cmp rfl hu (g_var 0) r_str)))) (g_callTy c_intS T.z_int (g_cons (g_var 0) r_nil)) r_non)) q_nil)
theorem ok_figure_of {k : Nat} (T : Txt B P w mg base Tb L cm)   : FnGood B P w mg base (k + 1) "figure_of" 1 (mD (runD 1 1 (fn_figure_of))) :=
  good_D1 T.d_figure_of sc_figure_of (body_figure_of T)
abbrev st_text_of : Stmt := top 28
theorem sc_text_of : FnScope ["web", "one", "other"] ["web"] (defScope st_text_of) := ⟨rfl, rfl, rfl, by decide +kernel, rfl, by decide +kernel, by decide +kernel⟩
def fn_text_of  : Rho → OS := (sSeq (sRet (sM1 dJoin (sCon (.str " ")) (s2 (dBin .Add) (sFrz (sLst (sCons (sCall dStr (sCons (s2 dIx (sVar 0) (sCon (.int 0))) sNil)) sNil))) (sFrz (sLc (.tp [1, 2]) [1, 2] (sItems (s2 dIx (sVar 0) (sCon (.int 1)))) sYes (s2 (dBin .Add) (s2 (dBin .Add) (sCall dStr (sCons (sVar 1) sNil)) (sCon (.str "-"))) (sCall dStr (sCons (sVar 2) sNil)))))))) sSkip)
theorem body_text_of {k : Nat} (T : Txt B P w mg base Tb L cm)   : ∀ (f : Addr) (cdv : Value) (A : Around) (outer : List Env) (s : Shared) (H : Hp) (E : XK), Room k (A.deeper (envOfC "text_of" (defScope st_text_of) s.heap.objs.size f cdv)) → PSs (cxOf (L2N.CX P w) P w B.K mg base ["web", "one", "other"] "text_of" (defScope st_text_of) f cdv A outer s H E) (defBody st_text_of) (tSt B (wishOf E) (fn_text_of)) := fun f cdv A outer s H E hr => by
  have S := sc_text_of
  have hu := room_u hr
  have tk : L2N.Takes (cxOf (L2N.CX P w) P w B.K mg base ["web", "one", "other"] "text_of" (defScope st_text_of) f cdv A outer s H E) (wishOf E) := L2N.takes_of rfl rfl rfl rfl
  have hp : PassesOwn (model P w) (A.deeper (envOfC "text_of" (defScope st_text_of) s.heap.objs.size f cdv)) (envOfC "text_of" (defScope st_text_of) s.heap.objs.size f cdv) (cxOf (L2N.CX P w) P w B.K mg base ["web", "one", "other"] "text_of" (defScope st_text_of) f cdv A outer s H E).xe := passes_of rfl
  exact (q_cons (q_ret (g_join rfl r_str (g_bin rfl (g_frz (r_lst (g_cons (g_callTy c_str T.z_str (g_cons (g_ix rfl (g_var 0) r_int) r_nil)) r_nil))) (g_frz (g_lc [("one", 1), ("other", 2)] rfl S.nd (ri_items rfl (g_ix rfl (g_var 0) r_int)) (fun _ _ _ _ _ => (gg_tup rfl rfl (ggs_cons 1 S.nd (ggs_cons 2 S.nd rgs_nil)))) (fun _ _ _ _ _ => rp_nil) (fun _ _ _ _ _ => (g_bin rfl (g_bin rfl (g_callTy c_str T.z_str (g_cons (g_var 1) r_nil)) r_str) (g_callTy c_str T.z_str (g_cons (g_var 2) r_nil))))))))) q_nil)
theorem ok_text_of {k : Nat} (T : Txt B P w mg base Tb L cm)   : FnGood B P w mg base (k + 1) "text_of" 1 (mD (runD 1 3 (fn_text_of))) :=
  good_D1 T.d_text_of sc_text_of (body_text_of T)
abbrev st_web_of : Stmt := top 29
theorem sc_web_of : FnScope ["value", "words", "pairs", "web", "word", "part"] ["value"] (defScope st_web_of) := ⟨rfl, rfl, rfl, by decide +kernel, rfl, by decide +kernel, by decide +kernel⟩
def fn_web_of (c_is_web_so : List D → FD) (c_figure_of : List D → FD) (c_text_of : List D → FD) : Rho → OS := (sSeq (sIf (sNot (sIsi (sVar 0) "str")) (sSeq (sRaise "InvalidText") sSkip) sSkip) (sSeq (sAsg (.nm 1) (sFrz (sM1 dSplit (sVar 0) (sCon (.str " "))))) (sSeq (sAsg (.nm 2) (sFrz (sLc (.nm 4) [4] (sItems (sSl (sVar 1) (sPart (some (sCon (.int 1)))) (sPart none))) sYes (sCall dTuple (sCons (sFrz (sLc (.nm 5) [5] (sItems (sFrz (sM1 dSplit (sVar 4) (sCon (.str "-"))))) sYes (sCallD (mD c_figure_of) (sCons (sVar 5) sNil)))) sNil))))) (sSeq (sAsg (.nm 3) (sTup (sCons (sCallD (mD c_figure_of) (sCons (s2 dIx (sVar 1) (sCon (.int 0))) sNil)) (sCons (sCall dTuple (sCons (sVar 2) sNil)) sNil)))) (sSeq (sIf (sOr (sNot (sCallD (mD c_is_web_so) (sCons (sVar 3) sNil))) (s2 (bCmp .NotEq) (sCallD (mD c_text_of) (sCons (sVar 3) sNil)) (sVar 0))) (sSeq (sRaise "InvalidText") sSkip) sSkip) (sSeq (sRet (sVar 3)) sSkip))))))
theorem body_web_of {k : Nat} (T : Txt B P w mg base Tb L cm) (c_is_web_so : List D → FD) (c_figure_of : List D → FD) (c_text_of : List D → FD) {l_is_web_so : Nat} (h_is_web_so : FnGood B P w mg base l_is_web_so "is_web_so" 1 (mD c_is_web_so)) (le_is_web_so : l_is_web_so ≤ k) {l_figure_of : Nat} (h_figure_of : FnGood B P w mg base l_figure_of "figure_of" 1 (mD c_figure_of)) (le_figure_of : l_figure_of ≤ k) {l_text_of : Nat} (h_text_of : FnGood B P w mg base l_text_of "text_of" 1 (mD c_text_of)) (le_text_of : l_text_of ≤ k) : ∀ (f : Addr) (cdv : Value) (A : Around) (outer : List Env) (s : Shared) (H : Hp) (E : XK), Room k (A.deeper (envOfC "web_of" (defScope st_web_of) s.heap.objs.size f cdv)) → PSs (cxOf (L2N.CX P w) P w B.K mg base ["value", "words", "pairs", "web", "word", "part"] "web_of" (defScope st_web_of) f cdv A outer s H E) (defBody st_web_of) (tSt B (wishOf E) (fn_web_of c_is_web_so c_figure_of c_text_of)) := fun f cdv A outer s H E hr => by
  have S := sc_web_of
  have hu := room_u hr
  have tk : L2N.Takes (cxOf (L2N.CX P w) P w B.K mg base ["value", "words", "pairs", "web", "word", "part"] "web_of" (defScope st_web_of) f cdv A outer s H E) (wishOf E) := L2N.takes_of rfl rfl rfl rfl
  have hp : PassesOwn (model P w) (A.deeper (envOfC "web_of" (defScope st_web_of) s.heap.objs.size f cdv)) (envOfC "web_of" (defScope st_web_of) s.heap.objs.size f cdv) (cxOf (L2N.CX P w) P w B.K mg base ["value", "words", "pairs", "web", "word", "part"] "web_of" (defScope st_web_of) f cdv A outer s H E).xe := passes_of rfl
  exact (q_cons (q_if (rt_not (gt_val (g_isi rfl T.z_isinstance T.z_str (g_var 0)))) (q_cons (g_raise rfl rfl tk (T.own (m := "InvalidText") (by simp))) q_nil) q_nil) (q_cons (gq_asg (g_frz (g_split (g_var 0) r_str)) (gg_name 1 S.nd)) (q_cons (gq_lc 2 [("word", 4)] rfl S.nd (ri_items rfl (r_sl rfl (g_var 1) (rp_some r_int) rp_none)) (fun _ _ _ _ _ => (gg_name 4 S.nd)) (fun _ _ _ _ _ => rp_nil) (fun _ _ _ _ _ => (g_callTy (c_tuple rfl) T.z_tuple (g_cons (g_frz (g_lc [("part", 5)] rfl S.nd (ri_items rfl (g_frz (g_split (g_var 4) r_str))) (fun _ _ _ _ _ => (gg_name 5 S.nd)) (fun _ _ _ _ _ => rp_nil) (fun _ _ _ _ _ => (g_callD rfl h_figure_of (hr.mono le_figure_of) takesN0 (g_cons (g_var 5) r_nil))))) r_nil)))) (q_cons (gq_asg (r_tup (g_cons (g_callD rfl h_figure_of (hr.mono le_figure_of) tk (g_cons (g_ix rfl (g_var 1) r_int) r_nil)) (g_cons (g_callTy (c_tuple rfl) T.z_tuple (g_cons (g_var 2) r_nil)) r_nil))) (gg_name 3 S.nd)) (q_cons (q_if (L2.PW.pt (rt_or (rt_not (gt_val (g_callD rfl h_is_web_so (hr.mono le_is_web_so) tk (g_cons (g_var 3) r_nil)))) (pw_or1 (gt_cmp rfl hu (g_callD rfl h_text_of (hr.mono le_text_of) tk (g_cons (g_var 3) r_nil)) (g_var 0))))) (q_cons (g_raise rfl rfl tk (T.own (m := "InvalidText") (by simp))) q_nil) q_nil) (q_cons (q_ret (g_var 3)) q_nil))))))
theorem ok_web_of {k : Nat} (T : Txt B P w mg base Tb L cm) (c_is_web_so : List D → FD) (c_figure_of : List D → FD) (c_text_of : List D → FD) {l_is_web_so : Nat} (h_is_web_so : FnGood B P w mg base l_is_web_so "is_web_so" 1 (mD c_is_web_so)) (le_is_web_so : l_is_web_so ≤ k) {l_figure_of : Nat} (h_figure_of : FnGood B P w mg base l_figure_of "figure_of" 1 (mD c_figure_of)) (le_figure_of : l_figure_of ≤ k) {l_text_of : Nat} (h_text_of : FnGood B P w mg base l_text_of "text_of" 1 (mD c_text_of)) (le_text_of : l_text_of ≤ k) : FnGood B P w mg base (k + 1) "web_of" 1 (mD (runD 1 6 (fn_web_of c_is_web_so c_figure_of c_text_of))) :=
  good_D1 T.d_web_of sc_web_of (body_web_of T c_is_web_so c_figure_of c_text_of h_is_web_so le_is_web_so h_figure_of le_figure_of h_text_of le_text_of)
abbrev st_web_text : Stmt := top 30
theorem sc_web_text : FnScope ["web"] ["web"] (defScope st_web_text) := ⟨rfl, rfl, rfl, by decide +kernel, rfl, by decide +kernel, by decide +kernel⟩
def fn_web_text (c_need_web : List D → FD) (c_text_of : List D → FD) : Rho → OS := (sSeq (sExpr (sCallD (mD c_need_web) (sCons (sVar 0) sNil))) (sSeq (sRet (sCallD (mD c_text_of) (sCons (sVar 0) sNil))) sSkip))
theorem body_web_text {k : Nat} (T : Txt B P w mg base Tb L cm) (c_need_web : List D → FD) (c_text_of : List D → FD) {l_need_web : Nat} (h_need_web : FnGood B P w mg base l_need_web "need_web" 1 (mD c_need_web)) (le_need_web : l_need_web ≤ k) {l_text_of : Nat} (h_text_of : FnGood B P w mg base l_text_of "text_of" 1 (mD c_text_of)) (le_text_of : l_text_of ≤ k) : ∀ (f : Addr) (cdv : Value) (A : Around) (outer : List Env) (s : Shared) (H : Hp) (E : XK), Room k (A.deeper (envOfC "web_text" (defScope st_web_text) s.heap.objs.size f cdv)) → PSs (cxOf (L2N.CX P w) P w B.K mg base ["web"] "web_text" (defScope st_web_text) f cdv A outer s H E) (defBody st_web_text) (tSt B (wishOf E) (fn_web_text c_need_web c_text_of)) := fun f cdv A outer s H E hr => by
  have S := sc_web_text
  have hu := room_u hr
  have tk : L2N.Takes (cxOf (L2N.CX P w) P w B.K mg base ["web"] "web_text" (defScope st_web_text) f cdv A outer s H E) (wishOf E) := L2N.takes_of rfl rfl rfl rfl
  have hp : PassesOwn (model P w) (A.deeper (envOfC "web_text" (defScope st_web_text) s.heap.objs.size f cdv)) (envOfC "web_text" (defScope st_web_text) s.heap.objs.size f cdv) (cxOf (L2N.CX P w) P w B.K mg base ["web"] "web_text" (defScope st_web_text) f cdv A outer s H E).xe := passes_of rfl
  exact (q_cons (gq_expr (g_callD rfl h_need_web (hr.mono le_need_web) tk (g_cons (g_var 0) r_nil))) (q_cons (q_ret (g_callD rfl h_text_of (hr.mono le_text_of) tk (g_cons (g_var 0) r_nil))) q_nil))
theorem ok_web_text {k : Nat} (T : Txt B P w mg base Tb L cm) (c_need_web : List D → FD) (c_text_of : List D → FD) {l_need_web : Nat} (h_need_web : FnGood B P w mg base l_need_web "need_web" 1 (mD c_need_web)) (le_need_web : l_need_web ≤ k) {l_text_of : Nat} (h_text_of : FnGood B P w mg base l_text_of "text_of" 1 (mD c_text_of)) (le_text_of : l_text_of ≤ k) : FnGood B P w mg base (k + 1) "web_text" 1 (mD (runD 1 1 (fn_web_text c_need_web c_text_of))) :=
  good_D1 T.d_web_text sc_web_text (body_web_text T c_need_web c_text_of h_need_web le_need_web h_text_of le_text_of)
abbrev st_read_web : Stmt := top 31
theorem sc_read_web : FnScope ["value"] ["value"] (defScope st_read_web) := ⟨rfl, rfl, rfl, by decide +kernel, rfl, by decide +kernel, by decide +kernel⟩
def fn_read_web (c_web_of : List D → FD) : Rho → OS := (sSeq (sRet (sCallD (mD c_web_of) (sCons (sVar 0) sNil))) sSkip)
theorem body_read_web {k : Nat} (T : Txt B P w mg base Tb L cm) (c_web_of : List D → FD) {l_web_of : Nat} (h_web_of : FnGood B P w mg base l_web_of "web_of" 1 (mD c_web_of)) (le_web_of : l_web_of ≤ k) : ∀ (f : Addr) (cdv : Value) (A : Around) (outer : List Env) (s : Shared) (H : Hp) (E : XK), Room k (A.deeper (envOfC "read_web" (defScope st_read_web) s.heap.objs.size f cdv)) → PSs (cxOf (L2N.CX P w) P w B.K mg base ["value"] "read_web" (defScope st_read_web) f cdv A outer s H E) (defBody st_read_web) (tSt B (wishOf E) (fn_read_web c_web_of)) := fun f cdv A outer s H E hr => by
  have S := sc_read_web
  have hu := room_u hr
  have tk : L2N.Takes (cxOf (L2N.CX P w) P w B.K mg base ["value"] "read_web" (defScope st_read_web) f cdv A outer s H E) (wishOf E) := L2N.takes_of rfl rfl rfl rfl
  have hp : PassesOwn (model P w) (A.deeper (envOfC "read_web" (defScope st_read_web) s.heap.objs.size f cdv)) (envOfC "read_web" (defScope st_read_web) s.heap.objs.size f cdv) (cxOf (L2N.CX P w) P w B.K mg base ["value"] "read_web" (defScope st_read_web) f cdv A outer s H E).xe := passes_of rfl
  exact (q_cons (q_ret (g_callD rfl h_web_of (hr.mono le_web_of) tk (g_cons (g_var 0) r_nil))) q_nil)
theorem ok_read_web {k : Nat} (T : Txt B P w mg base Tb L cm) (c_web_of : List D → FD) {l_web_of : Nat} (h_web_of : FnGood B P w mg base l_web_of "web_of" 1 (mD c_web_of)) (le_web_of : l_web_of ≤ k) : FnGood B P w mg base (k + 1) "read_web" 1 (mD (runD 1 1 (fn_read_web c_web_of))) :=
  good_D1 T.d_read_web sc_read_web (body_read_web T c_web_of h_web_of le_web_of)
abbrev st__law_pot_of : Stmt := top 33
theorem sc__law_pot_of : FnScope ["script", "k", "cell"] ["script", "k"] (defScope st__law_pot_of) := ⟨rfl, rfl, rfl, by decide +kernel, rfl, by decide +kernel, by decide +kernel⟩
def fn__law_pot_of  : Rho → OS := (sSeq (sAsg (.nm 2) (s2 (dBin .Add) (s2 (dBin .Mult) (sCon (.int 21013)) (sVar 1)) (sCon (.int 37)))) (sSeq (sIf (s2 (bCmp .Lt) (sVar 1) (sCall dLen (sCons (sVar 0) sNil))) (sSeq (sAsg (.nm 2) (s2 (dBin .Mod) (sCall dAbs (sCons (sCall dInt (sCons (s2 dIx (sVar 0) (sVar 1)) sNil)) sNil)) (s2 (dBin .Mult) (s2 (dBin .Mult) (s2 (dBin .Mult) (s2 (dBin .Pow) (sCon (.int 10)) (sCon (.int 60))) (s2 (dBin .Pow) (sCon (.int 10)) (sCon (.int 60)))) (s2 (dBin .Pow) (sCon (.int 10)) (sCon (.int 60)))) (s2 (dBin .Pow) (sCon (.int 10)) (sCon (.int 60)))))) sSkip) (sSeq (sIf (s2 (bCmp .Gt) (sCall dLen (sCons (sVar 0) sNil)) (sCon (.int 0))) (sSeq (sAsg (.nm 2) (s2 (dBin .Add) (sVar 2) (s2 (dBin .Mod) (sCall dAbs (sCons (sCall dInt (sCons (s2 dIx (sVar 0) (sCon (.int 0))) sNil)) sNil)) (sCon (.int 1000171))))) sSkip) sSkip) sSkip)) (sSeq (sRetO (sLst (sCons (sIte (s2 (bCmp .GtE) (sVar 2) (s2 (dBin .Pow) (sCon (.int 10)) (sCon (.int 18)))) (sVar 2) (sCon (.int 0))) (sCons (s2 (dBin .Add) (s2 (dBin .Mod) (sCall dInt (sCons (s2 (dBin .Add) (s2 (dBin .Add) (s2 (dBin .Mult) (s2 (dBin .Mod) (sVar 2) (sCon (.int 2147480197))) (sCon (.int 47))) (s2 (dBin .Mult) (sCon (.int 113)) (sVar 1))) (sCon (.int 79))) sNil)) (sCon (.int 2147480197))) (sCon (.int 1))) sNil)))) sSkip)))
theorem body__law_pot_of {k : Nat} (T : Txt B P w mg base Tb L cm)   : ∀ (f : Addr) (cdv : Value) (A : Around) (outer : List Env) (s : Shared) (H : Hp) (E : XK), Room k (A.deeper (envOfC "_law_pot_of" (defScope st__law_pot_of) s.heap.objs.size f cdv)) → PSs (cxOf (L2N.CX P w) P w B.K mg base ["script", "k", "cell"] "_law_pot_of" (defScope st__law_pot_of) f cdv A outer s H E) (defBody st__law_pot_of) (tSt B (wishOf E) (fn__law_pot_of)) := fun f cdv A outer s H E hr => by
  have S := sc__law_pot_of
  have hu := room_u hr
  have tk : L2N.Takes (cxOf (L2N.CX P w) P w B.K mg base ["script", "k", "cell"] "_law_pot_of" (defScope st__law_pot_of) f cdv A outer s H E) (wishOf E) := L2N.takes_of rfl rfl rfl rfl
  have hp : PassesOwn (model P w) (A.deeper (envOfC "_law_pot_of" (defScope st__law_pot_of) s.heap.objs.size f cdv)) (envOfC "_law_pot_of" (defScope st__law_pot_of) s.heap.objs.size f cdv) (cxOf (L2N.CX P w) P w B.K mg base ["script", "k", "cell"] "_law_pot_of" (defScope st__law_pot_of) f cdv A outer s H E).xe := passes_of rfl
  exact (q_cons (gq_asg (g_bin rfl (g_bin rfl r_int (g_var 1)) r_int) (gg_name 2 S.nd)) (q_cons (q_if (gt_cmp rfl hu (g_var 1) (g_callB (c_len rfl) T.z_len (g_cons (g_var 0) r_nil))) (q_cons (gq_asg (g_bin rfl (g_callB c_abs T.z_abs (g_cons (g_callTy c_int T.z_int (g_cons (g_ix rfl (g_var 0) (g_var 1)) r_nil)) r_nil)) (g_bin rfl (g_bin rfl (g_bin rfl (g_bin rfl r_int r_int) (g_bin rfl r_int r_int)) (g_bin rfl r_int r_int)) (g_bin rfl r_int r_int))) (gg_name 2 S.nd)) q_nil) (q_cons (q_if (gt_cmp rfl hu (g_callB (c_len rfl) T.z_len (g_cons (g_var 0) r_nil)) r_int) (q_cons (gq_asg (g_bin rfl (g_var 2) (g_bin rfl (g_callB c_abs T.z_abs (g_cons (g_callTy c_int T.z_int (g_cons (g_ix rfl (g_var 0) r_int) r_nil)) r_nil)) r_int)) (gg_name 2 S.nd)) q_nil) q_nil) q_nil)) (q_cons (q_retO (r_lst (g_cons (r_ite (gt_cmp rfl hu (g_var 2) (g_bin rfl r_int r_int)) (g_var 2) r_int) (g_cons (g_bin rfl (g_bin rfl (g_callTy c_int T.z_int (g_cons (g_bin rfl (g_bin rfl (g_bin rfl (g_bin rfl (g_var 2) r_int) r_int) (g_bin rfl r_int (g_var 1))) r_int) r_nil)) r_int) r_int) r_nil)))) q_nil)))
theorem ok__law_pot_of {k : Nat} (T : Txt B P w mg base Tb L cm)   : FnGood B P w mg base (k + 1) "_law_pot_of" 2 (mD (runD 2 3 (fn__law_pot_of))) :=
  good_D1 T.d__law_pot_of sc__law_pot_of (body__law_pot_of T)
abbrev st__law_dip : Stmt := top 34
theorem sc__law_dip : FnScope ["pot", "many", "found", "wide"] ["pot", "many"] (defScope st__law_dip) := ⟨rfl, rfl, rfl, by decide +kernel, rfl, by decide +kernel, by decide +kernel⟩
def fn__law_dip  : Rho → OS := (sSeq (sIf (s2 (bCmp .Gt) (sIxv 0 (sCon (.int 0))) (sCon (.int 0))) (sSeq (sAsg (.nm 2) (s2 (dBin .Mod) (sCall dInt (sCons (sIxv 0 (sCon (.int 0))) sNil)) (sVar 1))) (sSeq (sItem 0 (sCon (.int 0)) (s2 (dBin .FloorDiv) (sIxv 0 (sCon (.int 0))) (sVar 1))) (sSeq (sRet (sVar 2)) sSkip))) sSkip) (sSeq (sAsg (.tp [2, 3]) (sTup (sCons (sCon (.int 0)) (sCons (sCon (.int 1)) sNil)))) (sSeq (sWhile (fun _ => 40) (sOr (s2 (bCmp .Lt) (sVar 3) (sVar 1)) (s2 (bCmp .Eq) (sVar 3) (sCon (.int 1)))) (sSeq (sItem 0 (sCon (.int 1)) (s2 (dBin .Mod) (sCall dInt (sCons (s2 (dBin .Add) (s2 (dBin .Mult) (sIxv 0 (sCon (.int 1))) (sCon (.int 14741))) (sCon (.int 137))) sNil)) (sCon (.int 2147480197)))) (sSeq (sAsg (.nm 2) (s2 (dBin .Add) (s2 (dBin .Mult) (sVar 2) (sCon (.int 8192))) (s2 (dBin .Mod) (sCall dInt (sCons (s2 (dBin .FloorDiv) (sIxv 0 (sCon (.int 1))) (sCon (.int 76003))) sNil)) (sCon (.int 8192))))) (sSeq (sAsg (.nm 3) (s2 (dBin .Mult) (sVar 3) (sCon (.int 8192)))) sSkip)))) (sSeq (sRet (s2 (dBin .Mod) (sCall dInt (sCons (sVar 2) sNil)) (sVar 1))) sSkip))))
theorem body__law_dip {k : Nat} (T : Txt B P w mg base Tb L cm)   : ∀ (f : Addr) (cdv : Value) (A : Around) (outer : List Env) (s : Shared) (H : Hp) (E : XK), Room k (A.deeper (envOfC "_law_dip" (defScope st__law_dip) s.heap.objs.size f cdv)) → PSs (cxOf (L2N.CX P w) P w B.K mg base ["pot", "many", "found", "wide"] "_law_dip" (defScope st__law_dip) f cdv A outer s H E) (defBody st__law_dip) (tSt B (wishOf E) (fn__law_dip)) := fun f cdv A outer s H E hr => by
  have S := sc__law_dip
  have hu := room_u hr
  have tk : L2N.Takes (cxOf (L2N.CX P w) P w B.K mg base ["pot", "many", "found", "wide"] "_law_dip" (defScope st__law_dip) f cdv A outer s H E) (wishOf E) := L2N.takes_of rfl rfl rfl rfl
  have hp : PassesOwn (model P w) (A.deeper (envOfC "_law_dip" (defScope st__law_dip) s.heap.objs.size f cdv)) (envOfC "_law_dip" (defScope st__law_dip) s.heap.objs.size f cdv) (cxOf (L2N.CX P w) P w B.K mg base ["pot", "many", "found", "wide"] "_law_dip" (defScope st__law_dip) f cdv A outer s H E).xe := passes_of rfl
  exact (q_cons (q_if (gt_cmp rfl hu (g_ixv 0 rfl r_int) r_int) (q_cons (gq_asg (g_bin rfl (g_callTy c_int T.z_int (g_cons (g_ixv 0 rfl r_int) r_nil)) (g_var 1)) (gg_name 2 S.nd)) (q_cons (gq_item 0 r_int (g_bin rfl (g_ixv 0 rfl r_int) (g_var 1))) (q_cons (q_ret (g_var 2)) q_nil))) q_nil) (q_cons (gq_asg (r_tup (g_cons r_int (g_cons r_int r_nil))) (gg_tup rfl rfl (ggs_cons 2 S.nd (ggs_cons 3 S.nd rgs_nil)))) (q_cons (q_while hp (L2.PW.pt (rt_or (gt_cmp rfl hu (g_var 3) (g_var 1)) (pw_or1 (gt_cmp rfl hu (g_var 3) r_int)))) (q_cons (gq_item 0 r_int (g_bin rfl (g_callTy c_int T.z_int (g_cons (g_bin rfl (g_bin rfl (g_ixv 0 rfl r_int) r_int) r_int) r_nil)) r_int)) (q_cons (gq_asg (g_bin rfl (g_bin rfl (g_var 2) r_int) (g_bin rfl (g_callTy c_int T.z_int (g_cons (g_bin rfl (g_ixv 0 rfl r_int) r_int) r_nil)) r_int)) (gg_name 2 S.nd)) (q_cons (gq_asg (g_bin rfl (g_var 3) r_int) (gg_name 3 S.nd)) q_nil)))) (q_cons (q_ret (g_bin rfl (g_callTy c_int T.z_int (g_cons (g_var 2) r_nil)) (g_var 1))) q_nil))))
theorem ok__law_dip {k : Nat} (T : Txt B P w mg base Tb L cm)   : FnGood B P w mg base (k + 1) "_law_dip" 2 (mR (runR 2 4 (fn__law_dip))) :=
  good_R1 T.d__law_dip sc__law_dip (body__law_dip T)
abbrev st__law_any : Stmt := top 35
theorem sc__law_any : FnScope ["pot", "things"] ["pot", "things"] (defScope st__law_any) := ⟨rfl, rfl, rfl, by decide +kernel, rfl, by decide +kernel, by decide +kernel⟩
def fn__law_any (c__law_dip : List D → List D → FL) : Rho → OS := (sSeq (sRet (s2 dIx (sVar 1) (sCallR (mR c__law_dip) 0 (sCons (sCall dLen (sCons (sVar 1) sNil)) sNil)))) sSkip)
theorem body__law_any {k : Nat} (T : Txt B P w mg base Tb L cm) (c__law_dip : List D → List D → FL) {l__law_dip : Nat} (h__law_dip : FnGood B P w mg base l__law_dip "_law_dip" 2 (mR c__law_dip)) (le__law_dip : l__law_dip ≤ k) : ∀ (f : Addr) (cdv : Value) (A : Around) (outer : List Env) (s : Shared) (H : Hp) (E : XK), Room k (A.deeper (envOfC "_law_any" (defScope st__law_any) s.heap.objs.size f cdv)) → PSs (cxOf (L2N.CX P w) P w B.K mg base ["pot", "things"] "_law_any" (defScope st__law_any) f cdv A outer s H E) (defBody st__law_any) (tSt B (wishOf E) (fn__law_any c__law_dip)) := fun f cdv A outer s H E hr => by
  have S := sc__law_any
  have hu := room_u hr
  have tk : L2N.Takes (cxOf (L2N.CX P w) P w B.K mg base ["pot", "things"] "_law_any" (defScope st__law_any) f cdv A outer s H E) (wishOf E) := L2N.takes_of rfl rfl rfl rfl
  have hp : PassesOwn (model P w) (A.deeper (envOfC "_law_any" (defScope st__law_any) s.heap.objs.size f cdv)) (envOfC "_law_any" (defScope st__law_any) s.heap.objs.size f cdv) (cxOf (L2N.CX P w) P w B.K mg base ["pot", "things"] "_law_any" (defScope st__law_any) f cdv A outer s H E).xe := passes_of rfl
  exact (q_cons (q_ret (g_ix rfl (g_var 1) (g_callR 0 rfl h__law_dip (hr.mono le__law_dip) tk (g_cons (g_callB (c_len rfl) T.z_len (g_cons (g_var 1) r_nil)) r_nil)))) q_nil)
theorem ok__law_any {k : Nat} (T : Txt B P w mg base Tb L cm) (c__law_dip : List D → List D → FL) {l__law_dip : Nat} (h__law_dip : FnGood B P w mg base l__law_dip "_law_dip" 2 (mR c__law_dip)) (le__law_dip : l__law_dip ≤ k) : FnGood B P w mg base (k + 1) "_law_any" 2 (mR (runR 2 2 (fn__law_any c__law_dip))) :=
  good_R1 T.d__law_any sc__law_any (body__law_any T c__law_dip h__law_dip le__law_dip)
abbrev st__law_are_tied : Stmt := top 36
theorem sc__law_are_tied : FnScope ["grid", "one", "other"] ["grid", "one", "other"] (defScope st__law_are_tied) := ⟨rfl, rfl, rfl, by decide +kernel, rfl, by decide +kernel, by decide +kernel⟩
def fn__law_are_tied  : Rho → OS := (sSeq (sRet (sOr (s2 (bCmp .In) (sTup (sCons (sVar 1) (sCons (sVar 2) sNil))) (s2 dIx (sVar 0) (sCon (.int 1)))) (s2 (bCmp .In) (sTup (sCons (sVar 2) (sCons (sVar 1) sNil))) (s2 dIx (sVar 0) (sCon (.int 1)))))) sSkip)
theorem body__law_are_tied {k : Nat} (T : Txt B P w mg base Tb L cm)   : ∀ (f : Addr) (cdv : Value) (A : Around) (outer : List Env) (s : Shared) (H : Hp) (E : XK), Room k (A.deeper (envOfC "_law_are_tied" (defScope st__law_are_tied) s.heap.objs.size f cdv)) → PSs (cxOf (L2N.CX P w) P w B.K mg base ["grid", "one", "other"] "_law_are_tied" (defScope st__law_are_tied) f cdv A outer s H E) (defBody st__law_are_tied) (tSt B (wishOf E) (fn__law_are_tied)) := fun f cdv A outer s H E hr => by
  have S := sc__law_are_tied
  have hu := room_u hr
  have tk : L2N.Takes (cxOf (L2N.CX P w) P w B.K mg base ["grid", "one", "other"] "_law_are_tied" (defScope st__law_are_tied) f cdv A outer s H E) (wishOf E) := L2N.takes_of rfl rfl rfl rfl
  have hp : PassesOwn (model P w) (A.deeper (envOfC "_law_are_tied" (defScope st__law_are_tied) s.heap.objs.size f cdv)) (envOfC "_law_are_tied" (defScope st__law_are_tied) s.heap.objs.size f cdv) (cxOf (L2N.CX P w) P w B.K mg base ["grid", "one", "other"] "_law_are_tied" (defScope st__law_are_tied) f cdv A outer s H E).xe := passes_of rfl
  exact (q_cons (q_ret (r_or (pos' := ⟨0, 0, 0, 0⟩) (g_cmp rfl hu (r_tup (g_cons (g_var 1) (g_cons (g_var 2) r_nil))) (g_ix rfl (g_var 0) r_int)) (pe_one (g_cmp rfl hu (r_tup (g_cons (g_var 2) (g_cons (g_var 1) r_nil))) (g_ix rfl (g_var 0) r_int))))) q_nil)
theorem ok__law_are_tied {k : Nat} (T : Txt B P w mg base Tb L cm)   : FnGood B P w mg base (k + 1) "_law_are_tied" 3 (mD (runD 3 3 (fn__law_are_tied))) :=
  good_D1 T.d__law_are_tied sc__law_are_tied (body__law_are_tied T)
abbrev st__law_round : Stmt := top 37
theorem sc__law_round : FnScope ["many", "paces", "found", "spot", "pace", "late"] ["many", "paces"] (defScope st__law_round) := ⟨rfl, rfl, rfl, by decide +kernel, rfl, by decide +kernel, by decide +kernel⟩
def fn__law_round  : Rho → OS := (sSeq (sAsgO 2 (sLst sNil)) (sSeq (sFor (.nm 3) (sRng (sCons (sVar 0) sNil)) (sSeq (sFor (.nm 4) (sItems (sVar 1)) (sSeq (sAsg (.nm 5) (s2 (dBin .Mod) (s2 (dBin .Add) (sVar 3) (sVar 4)) (sVar 0))) (sSeq (sApp 2 (sTup (sCons (sCall dMin (sCons (sVar 3) (sCons (sVar 5) sNil))) (sCons (sCall dMax (sCons (sVar 3) (sCons (sVar 5) sNil))) sNil)))) sSkip))) sSkip)) (sSeq (sRet (sTup (sCons (sVar 0) (sCons (sCall dTuple (sCons (sFrz (sSetS (sCons (sVar 2) sNil))) sNil)) sNil)))) sSkip)))
theorem body__law_round {k : Nat} (T : Txt B P w mg base Tb L cm)   : ∀ (f : Addr) (cdv : Value) (A : Around) (outer : List Env) (s : Shared) (H : Hp) (E : XK), Room k (A.deeper (envOfC "_law_round" (defScope st__law_round) s.heap.objs.size f cdv)) → PSs (cxOf (L2N.CX P w) P w B.K mg base ["many", "paces", "found", "spot", "pace", "late"] "_law_round" (defScope st__law_round) f cdv A outer s H E) (defBody st__law_round) (tSt B (wishOf E) (fn__law_round)) := fun f cdv A outer s H E hr => by
  have S := sc__law_round
  have hu := room_u hr
  have tk : L2N.Takes (cxOf (L2N.CX P w) P w B.K mg base ["many", "paces", "found", "spot", "pace", "late"] "_law_round" (defScope st__law_round) f cdv A outer s H E) (wishOf E) := L2N.takes_of rfl rfl rfl rfl
  have hp : PassesOwn (model P w) (A.deeper (envOfC "_law_round" (defScope st__law_round) s.heap.objs.size f cdv)) (envOfC "_law_round" (defScope st__law_round) s.heap.objs.size f cdv) (cxOf (L2N.CX P w) P w B.K mg base ["many", "paces", "found", "spot", "pace", "late"] "_law_round" (defScope st__law_round) f cdv A outer s H E).xe := passes_of rfl
  exact (q_cons (gq_asgO 2 S.nd (r_lst r_nil)) (q_cons (gq_for hp rfl (gi_rng1 T.z_range (g_var 0)) (gg_name 3 S.nd) (q_cons (gq_for hp rfl (ri_items rfl (g_var 1)) (gg_name 4 S.nd) (q_cons (gq_asg (g_bin rfl (g_bin rfl (g_var 3) (g_var 4)) (g_var 0)) (gg_name 5 S.nd)) (q_cons (gq_app 2 (r_tup (g_cons (g_callB (c_min rfl) T.z_min (g_cons (g_var 3) (g_cons (g_var 5) r_nil))) (g_cons (g_callB (c_max rfl) T.z_max (g_cons (g_var 3) (g_cons (g_var 5) r_nil))) r_nil)))) q_nil))) q_nil)) (q_cons (q_ret (r_tup (g_cons (g_var 0) (g_cons (g_callTy (c_tuple rfl) T.z_tuple (g_cons (g_frz (g_sortSet rfl rfl hu T.z_sorted T.z_set (g_var 2))) r_nil)) r_nil)))) q_nil)))
theorem ok__law_round {k : Nat} (T : Txt B P w mg base Tb L cm)   : FnGood B P w mg base (k + 1) "_law_round" 2 (mD (runD 2 6 (fn__law_round))) :=
  good_D1 T.d__law_round sc__law_round (body__law_round T)
abbrev st__law_fours : Stmt := top 38
theorem sc__law_fours : FnScope ["grid", "found", "one", "other", "a", "b", "c", "d", "e", "f", "free"] ["grid"] (defScope st__law_fours) := ⟨rfl, rfl, rfl, by decide +kernel, rfl, by decide +kernel, by decide +kernel⟩
def fn__law_fours (c__law_are_tied : List D → FD) : Rho → OS := (sSeq (sAsgO 1 (sLst sNil)) (sSeq (sFor (.tp [2, 3]) (sItems (s2 dIx (sVar 0) (sCon (.int 1)))) (sSeq (sFor (.tp [4, 5]) (sItems (sTup (sCons (sTup (sCons (sVar 2) (sCons (sVar 3) sNil))) (sCons (sTup (sCons (sVar 3) (sCons (sVar 2) sNil))) sNil)))) (sSeq (sFor (.tp [6, 7]) (sItems (s2 dIx (sVar 0) (sCon (.int 1)))) (sSeq (sFor (.tp [8, 9]) (sItems (sTup (sCons (sTup (sCons (sVar 6) (sCons (sVar 7) sNil))) (sCons (sTup (sCons (sVar 7) (sCons (sVar 6) sNil))) sNil)))) (sSeq (sAsg (.nm 10) (sAnd (sNot (sCallD (mD c__law_are_tied) (sCons (sVar 0) (sCons (sVar 4) (sCons (sVar 8) sNil))))) (sNot (sCallD (mD c__law_are_tied) (sCons (sVar 0) (sCons (sVar 5) (sCons (sVar 9) sNil))))))) (sSeq (sIf (sAnd (sVar 10) (s2 (bCmp .Eq) (sSetN (sCons (sFrz (sLst (sCons (sVar 4) (sCons (sVar 5) (sCons (sVar 8) (sCons (sVar 9) sNil)))))) sNil)) (sCon (.int 4)))) (sSeq (sApp 1 (sTup (sCons (sVar 4) (sCons (sVar 5) (sCons (sVar 8) (sCons (sVar 9) sNil)))))) sSkip) sSkip) sSkip))) sSkip)) sSkip)) sSkip)) (sSeq (sRet (sFrz (sSorted (sCons (sVar 1) sNil)))) sSkip)))
theorem body__law_fours {k : Nat} (T : Txt B P w mg base Tb L cm) (c__law_are_tied : List D → FD) {l__law_are_tied : Nat} (h__law_are_tied : FnGood B P w mg base l__law_are_tied "_law_are_tied" 3 (mD c__law_are_tied)) (le__law_are_tied : l__law_are_tied ≤ k) : ∀ (f : Addr) (cdv : Value) (A : Around) (outer : List Env) (s : Shared) (H : Hp) (E : XK), Room k (A.deeper (envOfC "_law_fours" (defScope st__law_fours) s.heap.objs.size f cdv)) → PSs (cxOf (L2N.CX P w) P w B.K mg base ["grid", "found", "one", "other", "a", "b", "c", "d", "e", "f", "free"] "_law_fours" (defScope st__law_fours) f cdv A outer s H E) (defBody st__law_fours) (tSt B (wishOf E) (fn__law_fours c__law_are_tied)) := fun f cdv A outer s H E hr => by
  have S := sc__law_fours
  have hu := room_u hr
  have tk : L2N.Takes (cxOf (L2N.CX P w) P w B.K mg base ["grid", "found", "one", "other", "a", "b", "c", "d", "e", "f", "free"] "_law_fours" (defScope st__law_fours) f cdv A outer s H E) (wishOf E) := L2N.takes_of rfl rfl rfl rfl
  have hp : PassesOwn (model P w) (A.deeper (envOfC "_law_fours" (defScope st__law_fours) s.heap.objs.size f cdv)) (envOfC "_law_fours" (defScope st__law_fours) s.heap.objs.size f cdv) (cxOf (L2N.CX P w) P w B.K mg base ["grid", "found", "one", "other", "a", "b", "c", "d", "e", "f", "free"] "_law_fours" (defScope st__law_fours) f cdv A outer s H E).xe := passes_of rfl
  exact (q_cons (gq_asgO 1 S.nd (r_lst r_nil)) (q_cons (gq_for hp rfl (ri_items rfl (g_ix rfl (g_var 0) r_int)) (gg_tup rfl rfl (ggs_cons 2 S.nd (ggs_cons 3 S.nd rgs_nil))) (q_cons (gq_for hp rfl (ri_items rfl (r_tup (g_cons (r_tup (g_cons (g_var 2) (g_cons (g_var 3) r_nil))) (g_cons (r_tup (g_cons (g_var 3) (g_cons (g_var 2) r_nil))) r_nil)))) (gg_tup rfl rfl (ggs_cons 4 S.nd (ggs_cons 5 S.nd rgs_nil))) (q_cons (gq_for hp rfl (ri_items rfl (g_ix rfl (g_var 0) r_int)) (gg_tup rfl rfl (ggs_cons 6 S.nd (ggs_cons 7 S.nd rgs_nil))) (q_cons (gq_for hp rfl (ri_items rfl (r_tup (g_cons (r_tup (g_cons (g_var 6) (g_cons (g_var 7) r_nil))) (g_cons (r_tup (g_cons (g_var 7) (g_cons (g_var 6) r_nil))) r_nil)))) (gg_tup rfl rfl (ggs_cons 8 S.nd (ggs_cons 9 S.nd rgs_nil))) (q_cons (gq_asg (r_and (pos' := ⟨0, 0, 0, 0⟩) (r_not (g_callD rfl h__law_are_tied (hr.mono le__law_are_tied) tk (g_cons (g_var 0) (g_cons (g_var 4) (g_cons (g_var 8) r_nil))))) (pe_one (r_not (g_callD rfl h__law_are_tied (hr.mono le__law_are_tied) tk (g_cons (g_var 0) (g_cons (g_var 5) (g_cons (g_var 9) r_nil))))))) (gg_name 10 S.nd)) (q_cons (q_if (L2.PW.pt (rt_and (gt_val (g_var 10)) (pw_and1 (gt_cmp rfl hu (g_lenSet rfl rfl T.z_len T.z_set (g_frz (r_lst (g_cons (g_var 4) (g_cons (g_var 5) (g_cons (g_var 8) (g_cons (g_var 9) r_nil))))))) r_int)))) (q_cons (gq_app 1 (r_tup (g_cons (g_var 4) (g_cons (g_var 5) (g_cons (g_var 8) (g_cons (g_var 9) r_nil)))))) q_nil) q_nil) q_nil))) q_nil)) q_nil)) q_nil)) (q_cons (q_ret (g_frz (g_sorted rfl rfl T.z_sorted (g_var 1)))) q_nil)))
theorem ok__law_fours {k : Nat} (T : Txt B P w mg base Tb L cm) (c__law_are_tied : List D → FD) {l__law_are_tied : Nat} (h__law_are_tied : FnGood B P w mg base l__law_are_tied "_law_are_tied" 3 (mD c__law_are_tied)) (le__law_are_tied : l__law_are_tied ≤ k) : FnGood B P w mg base (k + 1) "_law_fours" 1 (mD (runD 1 11 (fn__law_fours c__law_are_tied))) :=
  good_D1 T.d__law_fours sc__law_fours (body__law_fours T c__law_are_tied h__law_are_tied le__law_are_tied)
abbrev st__law_behind : Stmt := top 39
theorem sc__law_behind : FnScope ["grid", "four", "a", "b", "c", "d", "old", "new", "tie"] ["grid", "four"] (defScope st__law_behind) := ⟨rfl, rfl, rfl, by decide +kernel, rfl, by decide +kernel, by decide +kernel⟩
def fn__law_behind  : Rho → OS := (sSeq (sAsg (.tp [2, 3, 4, 5]) (sVar 1)) (sSeq (sAsg (.nm 6) (sFrz (sLst (sCons (sTup (sCons (sCall dMin (sCons (sVar 2) (sCons (sVar 3) sNil))) (sCons (sCall dMax (sCons (sVar 2) (sCons (sVar 3) sNil))) sNil))) (sCons (sTup (sCons (sCall dMin (sCons (sVar 4) (sCons (sVar 5) sNil))) (sCons (sCall dMax (sCons (sVar 4) (sCons (sVar 5) sNil))) sNil))) sNil))))) (sSeq (sAsg (.nm 7) (sFrz (sLst (sCons (sTup (sCons (sCall dMin (sCons (sVar 2) (sCons (sVar 4) sNil))) (sCons (sCall dMax (sCons (sVar 2) (sCons (sVar 4) sNil))) sNil))) (sCons (sTup (sCons (sCall dMin (sCons (sVar 3) (sCons (sVar 5) sNil))) (sCons (sCall dMax (sCons (sVar 3) (sCons (sVar 5) sNil))) sNil))) sNil))))) (sSeq (sRet (sTup (sCons (s2 dIx (sVar 0) (sCon (.int 0))) (sCons (sCall dTuple (sCons (sFrz (sSorted (sCons (s2 (dBin .Add) (sFrz (sLc (.nm 8) [8] (sItems (s2 dIx (sVar 0) (sCon (.int 1)))) (s2 (bCmp .NotIn) (sVar 8) (sVar 6)) (sVar 8))) (sVar 7)) sNil))) sNil)) sNil)))) sSkip))))
theorem body__law_behind {k : Nat} (T : Txt B P w mg base Tb L cm)   : ∀ (f : Addr) (cdv : Value) (A : Around) (outer : List Env) (s : Shared) (H : Hp) (E : XK), Room k (A.deeper (envOfC "_law_behind" (defScope st__law_behind) s.heap.objs.size f cdv)) → PSs (cxOf (L2N.CX P w) P w B.K mg base ["grid", "four", "a", "b", "c", "d", "old", "new", "tie"] "_law_behind" (defScope st__law_behind) f cdv A outer s H E) (defBody st__law_behind) (tSt B (wishOf E) (fn__law_behind)) := fun f cdv A outer s H E hr => by
  have S := sc__law_behind
  have hu := room_u hr
  have tk : L2N.Takes (cxOf (L2N.CX P w) P w B.K mg base ["grid", "four", "a", "b", "c", "d", "old", "new", "tie"] "_law_behind" (defScope st__law_behind) f cdv A outer s H E) (wishOf E) := L2N.takes_of rfl rfl rfl rfl
  have hp : PassesOwn (model P w) (A.deeper (envOfC "_law_behind" (defScope st__law_behind) s.heap.objs.size f cdv)) (envOfC "_law_behind" (defScope st__law_behind) s.heap.objs.size f cdv) (cxOf (L2N.CX P w) P w B.K mg base ["grid", "four", "a", "b", "c", "d", "old", "new", "tie"] "_law_behind" (defScope st__law_behind) f cdv A outer s H E).xe := passes_of rfl
  exact (q_cons (gq_asg (g_var 1) (gg_tup rfl rfl (ggs_cons 2 S.nd (ggs_cons 3 S.nd (ggs_cons 4 S.nd (ggs_cons 5 S.nd rgs_nil)))))) (q_cons (gq_asg (g_frz (r_lst (g_cons (r_tup (g_cons (g_callB (c_min rfl) T.z_min (g_cons (g_var 2) (g_cons (g_var 3) r_nil))) (g_cons (g_callB (c_max rfl) T.z_max (g_cons (g_var 2) (g_cons (g_var 3) r_nil))) r_nil))) (g_cons (r_tup (g_cons (g_callB (c_min rfl) T.z_min (g_cons (g_var 4) (g_cons (g_var 5) r_nil))) (g_cons (g_callB (c_max rfl) T.z_max (g_cons (g_var 4) (g_cons (g_var 5) r_nil))) r_nil))) r_nil)))) (gg_name 6 S.nd)) (q_cons (gq_asg (g_frz (r_lst (g_cons (r_tup (g_cons (g_callB (c_min rfl) T.z_min (g_cons (g_var 2) (g_cons (g_var 4) r_nil))) (g_cons (g_callB (c_max rfl) T.z_max (g_cons (g_var 2) (g_cons (g_var 4) r_nil))) r_nil))) (g_cons (r_tup (g_cons (g_callB (c_min rfl) T.z_min (g_cons (g_var 3) (g_cons (g_var 5) r_nil))) (g_cons (g_callB (c_max rfl) T.z_max (g_cons (g_var 3) (g_cons (g_var 5) r_nil))) r_nil))) r_nil)))) (gg_name 7 S.nd)) (q_cons (q_ret (r_tup (g_cons (g_ix rfl (g_var 0) r_int) (g_cons (g_callTy (c_tuple rfl) T.z_tuple (g_cons (g_frz (g_sorted rfl rfl T.z_sorted (g_bin rfl (g_frz (g_lc [("tie", 8)] rfl S.nd (ri_items rfl (g_ix rfl (g_var 0) r_int)) (fun _ _ _ _ _ => (gg_name 8 S.nd)) (fun _ _ _ _ _ => (rp_one (gt_cmp rfl hu (g_var 8) (g_var 6)))) (fun _ _ _ _ _ => (g_var 8)))) (g_var 7)))) r_nil)) r_nil)))) q_nil))))
theorem ok__law_behind {k : Nat} (T : Txt B P w mg base Tb L cm)   : FnGood B P w mg base (k + 1) "_law_behind" 2 (mD (runD 2 9 (fn__law_behind))) :=
  good_D1 T.d__law_behind sc__law_behind (body__law_behind T)
abbrev st__law_drawn : Stmt := top 40
theorem sc__law_drawn : FnScope ["pot", "low", "high", "many", "paces", "grid", "turn", "fours", "pace"] ["pot", "low", "high"] (defScope st__law_drawn) := ⟨rfl, rfl, rfl, by decide +kernel, rfl, by decide +kernel, by decide +kernel⟩
def fn__law_drawn (c__law_dip : List D → List D → FL) (c__law_any : List D → List D → FL) (c__law_round : List D → FD) (c__law_fours : List D → FD) (c__law_behind : List D → FD) : Rho → OS := (sSeq (sAsg (.nm 3) (s2 (dBin .Add) (sVar 1) (sCallR (mR c__law_dip) 0 (sCons (s2 (dBin .Add) (s2 (dBin .Sub) (sVar 2) (sVar 1)) (sCon (.int 1))) sNil)))) (sSeq (sAsg (.nm 4) (sFrz (sLc (.nm 8) [8] (sRng (sCons (sCon (.int 1)) (sCons (s2 (dBin .Add) (s2 (dBin .FloorDiv) (sVar 3) (sCon (.int 2))) (sCon (.int 1))) sNil))) (s2 (bCmp .Eq) (sCallR (mR c__law_dip) 0 (sCons (sCon (.int 2)) sNil)) (sCon (.int 0))) (sVar 8)))) (sSeq (sAsg (.nm 5) (sCallD (mD c__law_round) (sCons (sVar 3) (sCons (sIte (s2 (bCmp .NotEq) (sVar 4) (sFrz (sLst sNil))) (sVar 4) (sFrz (sLst (sCons (sCon (.int 1)) sNil)))) sNil)))) (sSeq (sFor (.nm 6) (sRng (sCons (sCallR (mR c__law_dip) 0 (sCons (sCon (.int 4)) sNil)) sNil)) (sSeq (sAsg (.nm 7) (sCallD (mD c__law_fours) (sCons (sVar 5) sNil))) (sSeq (sAsg (.nm 5) (sIte (s2 (bCmp .NotEq) (sVar 7) (sFrz (sLst sNil))) (sCallD (mD c__law_behind) (sCons (sVar 5) (sCons (sCallR (mR c__law_any) 0 (sCons (sVar 7) sNil)) sNil))) (sVar 5))) sSkip))) (sSeq (sRet (sVar 5)) sSkip)))))
theorem body__law_drawn {k : Nat} (T : Txt B P w mg base Tb L cm) (c__law_dip : List D → List D → FL) (c__law_any : List D → List D → FL) (c__law_round : List D → FD) (c__law_fours : List D → FD) (c__law_behind : List D → FD) {l__law_dip : Nat} (h__law_dip : FnGood B P w mg base l__law_dip "_law_dip" 2 (mR c__law_dip)) (le__law_dip : l__law_dip ≤ k) {l__law_any : Nat} (h__law_any : FnGood B P w mg base l__law_any "_law_any" 2 (mR c__law_any)) (le__law_any : l__law_any ≤ k) {l__law_round : Nat} (h__law_round : FnGood B P w mg base l__law_round "_law_round" 2 (mD c__law_round)) (le__law_round : l__law_round ≤ k) {l__law_fours : Nat} (h__law_fours : FnGood B P w mg base l__law_fours "_law_fours" 1 (mD c__law_fours)) (le__law_fours : l__law_fours ≤ k) {l__law_behind : Nat} (h__law_behind : FnGood B P w mg base l__law_behind "_law_behind" 2 (mD c__law_behind)) (le__law_behind : l__law_behind ≤ k) : ∀ (f : Addr) (cdv : Value) (A : Around) (outer : List Env) (s : Shared) (H : Hp) (E : XK), Room k (A.deeper (envOfC "_law_drawn" (defScope st__law_drawn) s.heap.objs.size f cdv)) → PSs (cxOf (L2N.CX P w) P w B.K mg base ["pot", "low", "high", "many", "paces", "grid", "turn", "fours", "pace"] "_law_drawn" (defScope st__law_drawn) f cdv A outer s H E) (defBody st__law_drawn) (tSt B (wishOf E) (fn__law_drawn c__law_dip c__law_any c__law_round c__law_fours c__law_behind)) := fun f cdv A outer s H E hr => by
  have S := sc__law_drawn
  have hu := room_u hr
  have tk : L2N.Takes (cxOf (L2N.CX P w) P w B.K mg base ["pot", "low", "high", "many", "paces", "grid", "turn", "fours", "pace"] "_law_drawn" (defScope st__law_drawn) f cdv A outer s H E) (wishOf E) := L2N.takes_of rfl rfl rfl rfl
  have hp : PassesOwn (model P w) (A.deeper (envOfC "_law_drawn" (defScope st__law_drawn) s.heap.objs.size f cdv)) (envOfC "_law_drawn" (defScope st__law_drawn) s.heap.objs.size f cdv) (cxOf (L2N.CX P w) P w B.K mg base ["pot", "low", "high", "many", "paces", "grid", "turn", "fours", "pace"] "_law_drawn" (defScope st__law_drawn) f cdv A outer s H E).xe := passes_of rfl
  exact (q_cons (gq_asg (g_bin rfl (g_var 1) (g_callR 0 rfl h__law_dip (hr.mono le__law_dip) tk (g_cons (g_bin rfl (g_bin rfl (g_var 2) (g_var 1)) r_int) r_nil))) (gg_name 3 S.nd)) (q_cons (gq_lc 4 [("pace", 8)] rfl S.nd (gi_rng2 T.z_range r_int (g_bin rfl (g_bin rfl (g_var 3) r_int) r_int)) (fun _ _ _ _ _ => (gg_name 8 S.nd)) (fun _ _ _ _ _ => (rp_one (gt_cmp rfl hu (g_callR 0 rfl h__law_dip (hr.mono le__law_dip) takesN0 (g_cons r_int r_nil)) r_int))) (fun _ _ _ _ _ => (g_var 8))) (q_cons (gq_asg (g_callD rfl h__law_round (hr.mono le__law_round) tk (g_cons (g_var 3) (g_cons (r_ite (gt_cmp rfl hu (g_var 4) (g_frz (r_lst r_nil))) (g_var 4) (g_frz (r_lst (g_cons r_int r_nil)))) r_nil))) (gg_name 5 S.nd)) (q_cons (gq_for hp rfl (gi_rng1 T.z_range (g_callR 0 rfl h__law_dip (hr.mono le__law_dip) tk (g_cons r_int r_nil))) (gg_name 6 S.nd) (q_cons (gq_asg (g_callD rfl h__law_fours (hr.mono le__law_fours) tk (g_cons (g_var 5) r_nil)) (gg_name 7 S.nd)) (q_cons (gq_asg (r_ite (gt_cmp rfl hu (g_var 7) (g_frz (r_lst r_nil))) (g_callD rfl h__law_behind (hr.mono le__law_behind) tk (g_cons (g_var 5) (g_cons (g_callR 0 rfl h__law_any (hr.mono le__law_any) tk (g_cons (g_var 7) r_nil)) r_nil))) (g_var 5)) (gg_name 5 S.nd)) q_nil))) (q_cons (q_ret (g_var 5)) q_nil)))))
theorem ok__law_drawn {k : Nat} (T : Txt B P w mg base Tb L cm) (c__law_dip : List D → List D → FL) (c__law_any : List D → List D → FL) (c__law_round : List D → FD) (c__law_fours : List D → FD) (c__law_behind : List D → FD) {l__law_dip : Nat} (h__law_dip : FnGood B P w mg base l__law_dip "_law_dip" 2 (mR c__law_dip)) (le__law_dip : l__law_dip ≤ k) {l__law_any : Nat} (h__law_any : FnGood B P w mg base l__law_any "_law_any" 2 (mR c__law_any)) (le__law_any : l__law_any ≤ k) {l__law_round : Nat} (h__law_round : FnGood B P w mg base l__law_round "_law_round" 2 (mD c__law_round)) (le__law_round : l__law_round ≤ k) {l__law_fours : Nat} (h__law_fours : FnGood B P w mg base l__law_fours "_law_fours" 1 (mD c__law_fours)) (le__law_fours : l__law_fours ≤ k) {l__law_behind : Nat} (h__law_behind : FnGood B P w mg base l__law_behind "_law_behind" 2 (mD c__law_behind)) (le__law_behind : l__law_behind ≤ k) : FnGood B P w mg base (k + 1) "_law_drawn" 3 (mR (runR 3 9 (fn__law_drawn c__law_dip c__law_any c__law_round c__law_fours c__law_behind))) :=
  good_R1 T.d__law_drawn sc__law_drawn (body__law_drawn T c__law_dip c__law_any c__law_round c__law_fours c__law_behind h__law_dip le__law_dip h__law_any le__law_any h__law_round le__law_round h__law_fours le__law_fours h__law_behind le__law_behind)
abbrev st__law_text : Stmt := top 43
theorem sc__law_text : FnScope ["grid", "tie"] ["grid"] (defScope st__law_text) := ⟨rfl, rfl, rfl, by decide +kernel, rfl, by decide +kernel, by decide +kernel⟩
def fn__law_text  : Rho → OS := (sSeq (sRet (sM1 dJoin (sCon (.str " ")) (s2 (dBin .Add) (sFrz (sLst (sCons (sCall dStr (sCons (s2 dIx (sVar 0) (sCon (.int 0))) sNil)) sNil))) (sFrz (sLc (.nm 1) [1] (sItems (s2 dIx (sVar 0) (sCon (.int 1)))) sYes (s2 (dBin .Add) (s2 (dBin .Add) (sCall dStr (sCons (s2 dIx (sVar 1) (sCon (.int 0))) sNil)) (sCon (.str "-"))) (sCall dStr (sCons (s2 dIx (sVar 1) (sCon (.int 1))) sNil)))))))) sSkip)
theorem body__law_text {k : Nat} (T : Txt B P w mg base Tb L cm)   : ∀ (f : Addr) (cdv : Value) (A : Around) (outer : List Env) (s : Shared) (H : Hp) (E : XK), Room k (A.deeper (envOfC "_law_text" (defScope st__law_text) s.heap.objs.size f cdv)) → PSs (cxOf (L2N.CX P w) P w B.K mg base ["grid", "tie"] "_law_text" (defScope st__law_text) f cdv A outer s H E) (defBody st__law_text) (tSt B (wishOf E) (fn__law_text)) := fun f cdv A outer s H E hr => by
  have S := sc__law_text
  have hu := room_u hr
  have tk : L2N.Takes (cxOf (L2N.CX P w) P w B.K mg base ["grid", "tie"] "_law_text" (defScope st__law_text) f cdv A outer s H E) (wishOf E) := L2N.takes_of rfl rfl rfl rfl
  have hp : PassesOwn (model P w) (A.deeper (envOfC "_law_text" (defScope st__law_text) s.heap.objs.size f cdv)) (envOfC "_law_text" (defScope st__law_text) s.heap.objs.size f cdv) (cxOf (L2N.CX P w) P w B.K mg base ["grid", "tie"] "_law_text" (defScope st__law_text) f cdv A outer s H E).xe := passes_of rfl
  exact (q_cons (q_ret (g_join rfl r_str (g_bin rfl (g_frz (r_lst (g_cons (g_callTy c_str T.z_str (g_cons (g_ix rfl (g_var 0) r_int) r_nil)) r_nil))) (g_frz (g_lc [("tie", 1)] rfl S.nd (ri_items rfl (g_ix rfl (g_var 0) r_int)) (fun _ _ _ _ _ => (gg_name 1 S.nd)) (fun _ _ _ _ _ => rp_nil) (fun _ _ _ _ _ => (g_bin rfl (g_bin rfl (g_callTy c_str T.z_str (g_cons (g_ix rfl (g_var 1) r_int) r_nil)) r_str) (g_callTy c_str T.z_str (g_cons (g_ix rfl (g_var 1) r_int) r_nil))))))))) q_nil)
theorem ok__law_text {k : Nat} (T : Txt B P w mg base Tb L cm)   : FnGood B P w mg base (k + 1) "_law_text" 1 (mD (runD 1 2 (fn__law_text))) :=
  good_D1 T.d__law_text sc__law_text (body__law_text T)
abbrev st__law_due : Stmt := top 44
theorem sc__law_due : FnScope ["text", "words", "many", "ties", "word", "counts", "tie", "spot"] ["text"] (defScope st__law_due) := ⟨rfl, rfl, rfl, by decide +kernel, rfl, by decide +kernel, by decide +kernel⟩
def fn__law_due  : Rho → OS := (sSeq (sAsg (.nm 1) (sFrz (sM1 dSplit (sVar 0) (sCon (.str " "))))) (sSeq (sIf (s2 (bCmp .NotIn) (s2 dIx (sVar 1) (sCon (.int 0))) (sTup (sCons (sCon (.str "3")) (sCons (sCon (.str "4")) (sCons (sCon (.str "5")) (sCons (sCon (.str "6")) (sCons (sCon (.str "7")) (sCons (sCon (.str "8")) sNil)))))))) (sSeq (sRet (sCon .none)) sSkip) sSkip) (sSeq (sParO 2 3 (sCall dIntS (sCons (s2 dIx (sVar 1) (sCon (.int 0))) sNil)) (sLst sNil)) (sSeq (sFor (.nm 4) (sItems (sSl (sVar 1) (sPart (some (sCon (.int 1)))) (sPart none))) (sSeq (sIf (sOr (s2 (bCmp .NotEq) (sCall dLen (sCons (sVar 4) sNil)) (sCon (.int 3))) (sOr (s2 (bCmp .NotEq) (s2 dIx (sVar 4) (sCon (.int 1))) (sCon (.str "-"))) (sOr (s2 (bCmp .NotIn) (s2 dIx (sVar 4) (sCon (.int 0))) (sCon (.str "01234567"))) (s2 (bCmp .NotIn) (s2 dIx (sVar 4) (sCon (.int 2))) (sCon (.str "01234567")))))) (sSeq (sRet (sCon .none)) sSkip) sSkip) (sSeq (sApp 3 (sTup (sCons (sCall dIntS (sCons (s2 dIx (sVar 4) (sCon (.int 0))) sNil)) (sCons (sCall dIntS (sCons (s2 dIx (sVar 4) (sCon (.int 2))) sNil)) sNil)))) sSkip))) (sSeq (sIf (sOr (s2 (bCmp .NotEq) (sFrz (sLc (.nm 6) [6] (sItems (sVar 3)) (sOr (s2 (bCmp .GtE) (s2 dIx (sVar 6) (sCon (.int 0))) (s2 dIx (sVar 6) (sCon (.int 1)))) (s2 (bCmp .GtE) (s2 dIx (sVar 6) (sCon (.int 1))) (sVar 2))) (sVar 6))) (sFrz (sLst sNil))) (s2 (bCmp .NotEq) (sVar 3) (sFrz (sSetS (sCons (sVar 3) sNil))))) (sSeq (sRet (sCon .none)) sSkip) sSkip) (sSeq (sAsg (.nm 5) (sFrz (sLc (.nm 7) [7] (sRng (sCons (sVar 2) sNil)) sYes (sCall dLen (sCons (sFrz (sLc (.nm 6) [6] (sItems (sVar 3)) (s2 (bCmp .In) (sVar 7) (sVar 6)) (sVar 6))) sNil))))) (sSeq (sRet (sIte (sAnd (s2 (bCmp .Gt) (s2 dIx (sVar 5) (sCon (.int 0))) (sCon (.int 0))) (s2 (bCmp .Eq) (sVar 5) (sFrz (sRep (sCons (s2 dIx (sVar 5) (sCon (.int 0))) sNil) (sVar 2))))) (sTup (sCons (sVar 2) (sCons (sCall dTuple (sCons (sVar 3) sNil)) sNil))) (sCon .none))) sSkip)))))))
theorem body__law_due {k : Nat} (T : Txt B P w mg base Tb L cm)   : ∀ (f : Addr) (cdv : Value) (A : Around) (outer : List Env) (s : Shared) (H : Hp) (E : XK), Room k (A.deeper (envOfC "_law_due" (defScope st__law_due) s.heap.objs.size f cdv)) → PSs (cxOf (L2N.CX P w) P w B.K mg base ["text", "words", "many", "ties", "word", "counts", "tie", "spot"] "_law_due" (defScope st__law_due) f cdv A outer s H E) (defBody st__law_due) (tSt B (wishOf E) (fn__law_due)) := fun f cdv A outer s H E hr => by
  have S := sc__law_due
  have hu := room_u hr
  have tk : L2N.Takes (cxOf (L2N.CX P w) P w B.K mg base ["text", "words", "many", "ties", "word", "counts", "tie", "spot"] "_law_due" (defScope st__law_due) f cdv A outer s H E) (wishOf E) := L2N.takes_of rfl rfl rfl rfl
  have hp : PassesOwn (model P w) (A.deeper (envOfC "_law_due" (defScope st__law_due) s.heap.objs.size f cdv)) (envOfC "_law_due" (defScope st__law_due) s.heap.objs.size f cdv) (cxOf (L2N.CX P w) P w B.K mg base ["text", "words", "many", "ties", "word", "counts", "tie", "spot"] "_law_due" (defScope st__law_due) f cdv A outer s H E).xe := passes_of rfl
  exact (q_cons (gq_asg (g_frz (g_split (g_var 0) r_str)) (gg_name 1 S.nd)) (q_cons (q_if (gt_cmp rfl hu (g_ix rfl (g_var 1) r_int) (r_tup (g_cons r_str (g_cons r_str (g_cons r_str (g_cons r_str (g_cons r_str (g_cons r_str r_nil)))))))) (q_cons (q_ret r_non) q_nil) q_nil) (q_cons (gq_tupO 2 3 rfl S.nd (g_callTy c_intS T.z_int (g_cons (g_ix rfl (g_var 1) r_int) r_nil)) (r_lst r_nil)) (q_cons (gq_for hp rfl (ri_items rfl (r_sl rfl (g_var 1) (rp_some r_int) rp_none)) (gg_name 4 S.nd) (q_cons (q_if (L2.PW.pt (rt_or (gt_cmp rfl hu (g_callB (c_len rfl) T.z_len (g_cons (g_var 4) r_nil)) r_int) (rt_or (gt_cmp rfl hu (g_ix rfl (g_var 4) r_int) r_str) (rt_or (gt_cmp rfl hu (g_ix rfl (g_var 4) r_int) r_str) (pw_or1 (gt_cmp rfl hu (g_ix rfl (g_var 4) r_int) r_str)))))) (q_cons (q_ret r_non) q_nil) q_nil) (q_cons (gq_app 3 (r_tup (g_cons (g_callTy c_intS T.z_int (g_cons (g_ix rfl (g_var 4) r_int) r_nil)) (g_cons (g_callTy c_intS T.z_int (g_cons (g_ix rfl (g_var 4) r_int) r_nil)) r_nil)))) q_nil))) (q_cons (q_if (L2.PW.pt (rt_or (gt_cmp rfl hu (g_frz (g_lc [("tie", 6)] rfl S.nd (ri_items rfl (g_var 3)) (fun _ _ _ _ _ => (gg_name 6 S.nd)) (fun _ _ _ _ _ => (rp_one (L2.PW.pt (rt_or (gt_cmp rfl hu (g_ix rfl (g_var 6) r_int) (g_ix rfl (g_var 6) r_int)) (pw_or1 (gt_cmp rfl hu (g_ix rfl (g_var 6) r_int) (g_var 2))))))) (fun _ _ _ _ _ => (g_var 6)))) (g_frz (r_lst r_nil))) (pw_or1 (gt_cmp rfl hu (g_var 3) (g_frz (g_sortSet rfl rfl hu T.z_sorted T.z_set (g_var 3))))))) (q_cons (q_ret r_non) q_nil) q_nil) (q_cons (gq_lc 5 [("spot", 7)] rfl S.nd (gi_rng1 T.z_range (g_var 2)) (fun _ _ _ _ _ => (gg_name 7 S.nd)) (fun _ _ _ _ _ => rp_nil) (fun _ _ _ _ _ => (g_callB (c_len rfl) T.z_len (g_cons (g_frz (g_lc [("tie", 6)] rfl S.nd (ri_items rfl (g_var 3)) (fun _ _ _ _ _ => (gg_name 6 S.nd)) (fun _ _ _ _ _ => (rp_one (gt_cmp rfl hu (g_var 7) (g_var 6)))) (fun _ _ _ _ _ => (g_var 6)))) r_nil)))) (q_cons (q_ret (r_ite (L2.PW.pt (rt_and (gt_cmp rfl hu (g_ix rfl (g_var 5) r_int) r_int) (pw_and1 (gt_cmp rfl hu (g_var 5) (g_frz (r_rep (g_cons (g_ix rfl (g_var 5) r_int) r_nil) (g_var 2))))))) (r_tup (g_cons (g_var 2) (g_cons (g_callTy (c_tuple rfl) T.z_tuple (g_cons (g_var 3) r_nil)) r_nil))) r_non)) q_nil)))))))
theorem ok__law_due {k : Nat} (T : Txt B P w mg base Tb L cm)   : FnGood B P w mg base (k + 1) "_law_due" 1 (mD (runD 1 8 (fn__law_due))) :=
  good_D1 T.d__law_due sc__law_due (body__law_due T)
abbrev st__law_bent : Stmt := top 45
theorem sc__law_bent : FnScope ["pot", "text", "at", "way", "words"] ["pot", "text"] (defScope st__law_bent) := ⟨rfl, rfl, rfl, by decide +kernel, rfl, by decide +kernel, by decide +kernel⟩
def fn__law_bent (c__law_dip : List D → List D → FL) (c__law_any : List D → List D → FL) : Rho → OS := (sSeq (sPar 2 3 (sCons (sCallR (mR c__law_dip) 0 (sCons (s2 (dBin .Add) (sCall dLen (sCons (sVar 1) sNil)) (sCon (.int 1))) sNil)) (sCons (sCallR (mR c__law_dip) 0 (sCons (sCon (.int 6)) sNil)) sNil))) (sSeq (sIf (s2 (bCmp .Eq) (sVar 3) (sCon (.int 0))) (sSeq (sRet (s2 (dBin .Add) (s2 (dBin .Add) (sSl (sVar 1) (sPart none) (sPart (some (sVar 2)))) (sCallR (mR c__law_any) 0 (sCons (sFrz (sLst (sCons (sCon (.str " ")) (sCons (sCon (.str "-")) (sCons (sCon (.str "0")) (sCons (sCon (.str "1")) (sCons (sCon (.str "7")) (sCons (sCon (.str "x")) (sCons (sCon (.str "0-1")) (sCons (sCon (.str " 0-1")) (sCons (sCon (.str "\n")) sNil))))))))))) sNil))) (sSl (sVar 1) (sPart (some (sVar 2))) (sPart none)))) sSkip) sSkip) (sSeq (sIf (s2 (bCmp .Eq) (sVar 3) (sCon (.int 1))) (sSeq (sRet (s2 (dBin .Add) (sSl (sVar 1) (sPart none) (sPart (some (sVar 2)))) (sSl (sVar 1) (sPart (some (s2 (dBin .Add) (sVar 2) (sCon (.int 1))))) (sPart none)))) sSkip) sSkip) (sSeq (sAsgO 4 (sM1 dSplit (sVar 1) (sCon (.str " ")))) (sSeq (sAsg (.nm 2) (sCallR (mR c__law_dip) 0 (sCons (sLenH 4) sNil))) (sSeq (sIf (s2 (bCmp .Eq) (sVar 3) (sCon (.int 2))) (sSeq (sAsgO 4 (sCatO (sSl (sVar 4) (sPart none) (sPart (some (sVar 2)))) (sSl (sVar 4) (sPart (some (s2 (dBin .Add) (sVar 2) (sCon (.int 1))))) (sPart none)))) sSkip) sSkip) (sSeq (sIf (s2 (bCmp .Eq) (sVar 3) (sCon (.int 3))) (sSeq (sAsgO 4 (sCatO (sSl (sVar 4) (sPart none) (sPart (some (s2 (dBin .Add) (sVar 2) (sCon (.int 1)))))) (sSl (sVar 4) (sPart (some (sVar 2))) (sPart none)))) sSkip) sSkip) (sSeq (sIf (s2 (bCmp .Eq) (sVar 3) (sCon (.int 4))) (sSeq (sItem 4 (sVar 2) (sCallR (mR c__law_any) 0 (sCons (sFrz (sLst (sCons (sCon (.str "0-1")) (sCons (sCon (.str "1-0")) (sCons (sCon (.str "5-6")) (sCons (sCon (.str "0-0")) (sCons (sCon (.str "1-2")) (sCons (sCon (.str "3")) (sCons (sCon (.str "8")) (sCons (sCon (.str "9")) (sCons (sCon (.str "")) (sCons (sCon (.str "04")) (sCons (sCon (.str "0-1-2")) sNil))))))))))))) sNil))) sSkip) sSkip) (sSeq (sIf (s2 (bCmp .Eq) (sVar 3) (sCon (.int 5))) (sSeq (sAsgO 4 (sCatO (s2 (dBin .Add) (sSl (sVar 4) (sPart none) (sPart (some (sCon (.int 1))))) (sSl (sVar 4) (sPart (some (sCon (.int 2)))) (sPart none))) (sSl (sVar 4) (sPart (some (sCon (.int 1)))) (sPart (some (sCon (.int 2))))))) sSkip) sSkip) (sSeq (sRet (sM1 dJoin (sCon (.str " ")) (sVar 4))) sSkip))))))))))
theorem body__law_bent {k : Nat} (T : Txt B P w mg base Tb L cm) (c__law_dip : List D → List D → FL) (c__law_any : List D → List D → FL) {l__law_dip : Nat} (h__law_dip : FnGood B P w mg base l__law_dip "_law_dip" 2 (mR c__law_dip)) (le__law_dip : l__law_dip ≤ k) {l__law_any : Nat} (h__law_any : FnGood B P w mg base l__law_any "_law_any" 2 (mR c__law_any)) (le__law_any : l__law_any ≤ k) : ∀ (f : Addr) (cdv : Value) (A : Around) (outer : List Env) (s : Shared) (H : Hp) (E : XK), Room k (A.deeper (envOfC "_law_bent" (defScope st__law_bent) s.heap.objs.size f cdv)) → PSs (cxOf (L2N.CX P w) P w B.K mg base ["pot", "text", "at", "way", "words"] "_law_bent" (defScope st__law_bent) f cdv A outer s H E) (defBody st__law_bent) (tSt B (wishOf E) (fn__law_bent c__law_dip c__law_any)) := fun f cdv A outer s H E hr => by
  have S := sc__law_bent
  have hu := room_u hr
  have tk : L2N.Takes (cxOf (L2N.CX P w) P w B.K mg base ["pot", "text", "at", "way", "words"] "_law_bent" (defScope st__law_bent) f cdv A outer s H E) (wishOf E) := L2N.takes_of rfl rfl rfl rfl
  have hp : PassesOwn (model P w) (A.deeper (envOfC "_law_bent" (defScope st__law_bent) s.heap.objs.size f cdv)) (envOfC "_law_bent" (defScope st__law_bent) s.heap.objs.size f cdv) (cxOf (L2N.CX P w) P w B.K mg base ["pot", "text", "at", "way", "words"] "_law_bent" (defScope st__law_bent) f cdv A outer s H E).xe := passes_of rfl
  exact (q_cons (gq_par 2 3 rfl S.nd (g_callR 0 rfl h__law_dip (hr.mono le__law_dip) tk (g_cons (g_bin rfl (g_callB (c_len rfl) T.z_len (g_cons (g_var 1) r_nil)) r_int) r_nil)) (g_callR 0 rfl h__law_dip (hr.mono le__law_dip) tk (g_cons r_int r_nil))) (q_cons (q_if (gt_cmp rfl hu (g_var 3) r_int) (q_cons (q_ret (g_bin rfl (g_bin rfl (r_sl rfl (g_var 1) rp_none (rp_some (g_var 2))) (g_callR 0 rfl h__law_any (hr.mono le__law_any) tk (g_cons (g_frz (r_lst (g_cons r_str (g_cons r_str (g_cons r_str (g_cons r_str (g_cons r_str (g_cons r_str (g_cons r_str (g_cons r_str (g_cons r_str r_nil))))))))))) r_nil))) (r_sl rfl (g_var 1) (rp_some (g_var 2)) rp_none))) q_nil) q_nil) (q_cons (q_if (gt_cmp rfl hu (g_var 3) r_int) (q_cons (q_ret (g_bin rfl (r_sl rfl (g_var 1) rp_none (rp_some (g_var 2))) (r_sl rfl (g_var 1) (rp_some (g_bin rfl (g_var 2) r_int)) rp_none))) q_nil) q_nil) (q_cons (gq_asgO 4 S.nd (g_split (g_var 1) r_str)) (q_cons (gq_asg (g_callR 0 rfl h__law_dip (hr.mono le__law_dip) tk (g_cons (g_lenH 4 T.z_len) r_nil)) (gg_name 2 S.nd)) (q_cons (q_if (gt_cmp rfl hu (g_var 3) r_int) (q_cons (gq_asgO 4 S.nd (g_catO rfl (r_sl rfl (g_var 4) rp_none (rp_some (g_var 2))) (r_sl rfl (g_var 4) (rp_some (g_bin rfl (g_var 2) r_int)) rp_none))) q_nil) q_nil) (q_cons (q_if (gt_cmp rfl hu (g_var 3) r_int) (q_cons (gq_asgO 4 S.nd (g_catO rfl (r_sl rfl (g_var 4) rp_none (rp_some (g_bin rfl (g_var 2) r_int))) (r_sl rfl (g_var 4) (rp_some (g_var 2)) rp_none))) q_nil) q_nil) (q_cons (q_if (gt_cmp rfl hu (g_var 3) r_int) (q_cons (gq_item 4 (g_var 2) (g_callR 0 rfl h__law_any (hr.mono le__law_any) tk (g_cons (g_frz (r_lst (g_cons r_str (g_cons r_str (g_cons r_str (g_cons r_str (g_cons r_str (g_cons r_str (g_cons r_str (g_cons r_str (g_cons r_str (g_cons r_str (g_cons r_str r_nil))))))))))))) r_nil))) q_nil) q_nil) (q_cons (q_if (gt_cmp rfl hu (g_var 3) r_int) (q_cons (gq_asgO 4 S.nd (g_catO rfl (g_bin rfl (r_sl rfl (g_var 4) rp_none (rp_some r_int)) (r_sl rfl (g_var 4) (rp_some r_int) rp_none)) (r_sl rfl (g_var 4) (rp_some r_int) (rp_some r_int)))) q_nil) q_nil) (q_cons (q_ret (g_join rfl r_str (g_var 4))) q_nil))))))))))
theorem ok__law_bent {k : Nat} (T : Txt B P w mg base Tb L cm) (c__law_dip : List D → List D → FL) (c__law_any : List D → List D → FL) {l__law_dip : Nat} (h__law_dip : FnGood B P w mg base l__law_dip "_law_dip" 2 (mR c__law_dip)) (le__law_dip : l__law_dip ≤ k) {l__law_any : Nat} (h__law_any : FnGood B P w mg base l__law_any "_law_any" 2 (mR c__law_any)) (le__law_any : l__law_any ≤ k) : FnGood B P w mg base (k + 1) "_law_bent" 2 (mR (runR 2 5 (fn__law_bent c__law_dip c__law_any))) :=
  good_R1 T.d__law_bent sc__law_bent (body__law_bent T c__law_dip c__law_any h__law_dip le__law_dip h__law_any le__law_any)
abbrev st__law_read_right : Stmt := top 46
theorem sc__law_read_right : FnScope ["text", "due"] ["text"] (defScope st__law_read_right) := ⟨rfl, rfl, rfl, by decide +kernel, rfl, by decide +kernel, by decide +kernel⟩
def fn__law_read_right (c_read_web : List D → FD) (c__law_due : List D → FD) : Rho → OS := (sSeq (sAsg (.nm 1) (sCallD (mD c__law_due) (sCons (sVar 0) sNil))) (sSeq (sIf (s2 (bCmp .Is) (sVar 1) (sCon .none)) (sSeq (sRet (s2 (bCmp .Eq) (sWord kwd (sCallD (mD c_read_web) (sCons (sVar 0) sNil))) (sCon (.str "text")))) sSkip) sSkip) (sSeq (sRet (s2 (bCmp .Eq) (sCallD (mD c_read_web) (sCons (sVar 0) sNil)) (sVar 1))) sSkip)))
theorem body__law_read_right {k : Nat} (T : Txt B P w mg base Tb L cm) (c_read_web : List D → FD) (c__law_due : List D → FD) {l_read_web : Nat} (h_read_web : FnGood B P w mg base l_read_web "read_web" 1 (mD c_read_web)) (le_read_web : l_read_web ≤ k) {l__law_due : Nat} (h__law_due : FnGood B P w mg base l__law_due "_law_due" 1 (mD c__law_due)) (le__law_due : l__law_due ≤ k) : ∀ (f c P1 : Addr), LamX.TabB base mg c P1 → (P1, lamName "_law_read_right") ∈ Tb → (∀ p ∈ Tb, p.1 = P1 → p.2 = lamName "_law_read_right") → ∀ (A : Around) (outer : List Env) (s : Shared) (H : Hp) (E : XK), Room (k + 3) (A.deeper (envOfC "_law_read_right" (defScope st__law_read_right) s.heap.objs.size f (.ref c))) → PSs (cxOf (L2N.CX P w) P w B.K mg base ["text", "due"] "_law_read_right" (defScope st__law_read_right) f (.ref c) A outer s H E) (defBody st__law_read_right) (tSt B (wishOf E) (fn__law_read_right c_read_web c__law_due)) := fun f c P1 TB hTm hTu A outer s H E hr => by
  have S := sc__law_read_right
  have hu := room_u hr
  have tk : L2N.Takes (cxOf (L2N.CX P w) P w B.K mg base ["text", "due"] "_law_read_right" (defScope st__law_read_right) f (.ref c) A outer s H E) (wishOf E) := L2N.takes_of rfl rfl rfl rfl
  have hp : PassesOwn (model P w) (A.deeper (envOfC "_law_read_right" (defScope st__law_read_right) s.heap.objs.size f (.ref c))) (envOfC "_law_read_right" (defScope st__law_read_right) s.heap.objs.size f (.ref c)) (cxOf (L2N.CX P w) P w B.K mg base ["text", "due"] "_law_read_right" (defScope st__law_read_right) f (.ref c) A outer s H E).xe := passes_of rfl
  exact (q_cons (gq_asg (g_callD rfl h__law_due (hr.mono (Nat.le_trans le__law_due (by omega))) tk (g_cons (g_var 0) r_nil)) (gg_name 1 S.nd)) (q_cons (q_if (gt_cmp rfl hu (g_var 1) r_non) (q_cons (q_ret (g_cmp rfl hu (g_word T.beq rfl (word_d T) kw_ok TB rfl rfl hTm hTu hr (fun A outer s H E f' c' hr => have hu := room_u hr; have tk : L2N.Takes (LamN.lamCxN _ A outer s H E _ f' c') (wishOf E) := L2N.takes_of rfl rfl rfl rfl; (g_callD rfl h_read_web (hr.mono (Nat.le_trans le_read_web (by omega))) tk (g_cons (g_var 0) r_nil)))) r_str)) q_nil) q_nil) (q_cons (q_ret (g_cmp rfl hu (g_callD rfl h_read_web (hr.mono (Nat.le_trans le_read_web (by omega))) tk (g_cons (g_var 0) r_nil)) (g_var 1))) q_nil)))
theorem ok__law_read_right {k : Nat} (T : Txt B P w mg base Tb L cm) (c_read_web : List D → FD) (c__law_due : List D → FD) {l_read_web : Nat} (h_read_web : FnGood B P w mg base l_read_web "read_web" 1 (mD c_read_web)) (le_read_web : l_read_web ≤ k) {l__law_due : Nat} (h__law_due : FnGood B P w mg base l__law_due "_law_due" 1 (mD c__law_due)) (le__law_due : l__law_due ≤ k) : FnGood B P w mg base ((k + 3) + 1) "_law_read_right" 1 (mD (runD 1 2 (fn__law_read_right c_read_web c__law_due))) :=
  good_DL T.dl__law_read_right sc__law_read_right (body__law_read_right T c_read_web c__law_due h_read_web le_read_web h__law_due le__law_due)
end
end K12

set_option maxRecDepth 100000
set_option maxHeartbeats 4000000
namespace K12
open PySem PySem.Spec PyProof.Rows L2 Rf
section
variable {B : Bs} {P : Program} {w : World} {mg : Str → Option Value} {base : Heap} {Tb : List (Addr × Str)} {L : List (Str × Addr)} {cm : Addr}
abbrev st_law : Stmt := top 47
theorem sc_law : FnScope ["script", "k", "pot", "turn", "grid", "text", "again", "bent", "odds", "odd"] ["script"] (defScope st_law) := ⟨rfl, rfl, rfl, by decide +kernel, rfl, by decide +kernel, by decide +kernel⟩
def fn_law (c_web_text : List D → FD) (c_read_web : List D → FD) (c__law_pot_of : List D → FD) (c__law_round : List D → FD) (c__law_drawn : List D → List D → FL) (c__law_text : List D → FD) (c__law_bent : List D → List D → FL) (c__law_read_right : List D → FD) : Rho → OS := (sSeq (sFor (.nm 1) (sRng (sCons (s2 (dBin .Add) (sCon (.int 1)) (sCall dMin (sCons (sCall dLen (sCons (sVar 0) sNil)) (sCons (sCon (.int 8)) sNil)))) sNil)) (sSeq (sAsgO 2 (sCallO (mD c__law_pot_of) (sCons (sVar 0) (sCons (sVar 1) sNil)))) (sSeq (sFor (.nm 3) (sRng (sCons (sCon (.int 4)) sNil)) (sSeq (sAsg (.nm 4) (sCallR (mR c__law_drawn) 2 (sCons (sCon (.int 3)) (sCons (sCon (.int 8)) sNil)))) (sSeq (sAsg (.nm 5) (sCallD (mD c__law_text) (sCons (sVar 4) sNil))) (sSeq (sIf (sOr (s2 (bCmp .NotEq) (sCallD (mD c_web_text) (sCons (sVar 4) sNil)) (sVar 5)) (s2 (bCmp .NotEq) (sCallD (mD c_read_web) (sCons (sVar 5) sNil)) (sVar 4))) (sSeq (sRet (sCon (.bool false))) sSkip) sSkip) (sSeq (sFor (.nm 6) (sRng (sCons (sCon (.int 10)) sNil)) (sSeq (sAsg (.nm 7) (sCallR (mR c__law_bent) 2 (sCons (sVar 5) sNil))) (sSeq (sIf (sNot (sCallD (mD c__law_read_right) (sCons (sIte (s2 (bCmp .Gt) (s2 (dBin .Mod) (sVar 6) (sCon (.int 3))) (sCon (.int 0))) (sVar 7) (sCallR (mR c__law_bent) 2 (sCons (sVar 7) sNil))) sNil))) (sSeq (sRet (sCon (.bool false))) sSkip) sSkip) sSkip))) sSkip))))) (sSeq (sIf (s2 (bCmp .NotEq) (sWord kwd (sCallD (mD c_web_text) (sCons (sFrz (sListOf (sCons (sVar 4) sNil))) sNil))) (sCon (.str "web"))) (sSeq (sRet (sCon (.bool false))) sSkip) sSkip) sSkip)))) (sSeq (sAsg (.nm 8) (sFrz (sLst (sCons (sCon .none) (sCons (sCon (.int 5)) (sCons (sCon (.str "")) (sCons (sCon (.str "3")) (sCons (sCon (.str "3 0-1")) (sCons (sCon (.str "3 0-1 0-2 1-2 ")) (sCons (sCon (.str " 3 0-1 0-2 1-2")) (sCons (sCon (.str "3  0-1 0-2 1-2")) (sCons (sCon (.str "3 0-2 0-1 1-2")) sNil)))))))))))) (sSeq (sAsg (.nm 8) (s2 (dBin .Add) (sVar 8) (sFrz (sLst (sCons (sCon (.str "3 1-0 0-2 1-2")) (sCons (sCon (.str "03 0-1 0-2 1-2")) (sCons (sCon (.str "4 0-1 2-3 2-3")) (sCons (sCon (.str "2 0-1")) (sCons (sCon (.str "9 0-1")) (sCons (sCon (.str "4 0-1,2-3")) (sCons (sFrz (sLst (sCons (sCon (.str "4 0-1 2-3")) sNil))) sNil))))))))))) (sSeq (sIf (s2 (bCmp .NotEq) (sFrz (sLc (.nm 9) [9] (sItems (sVar 8)) (s2 (bCmp .NotEq) (sWord kwd (sCallD (mD c_read_web) (sCons (sVar 9) sNil))) (sCon (.str "text"))) (sVar 9))) (sFrz (sLst sNil))) (sSeq (sRet (sCon (.bool false))) sSkip) sSkip) (sSeq (sRet (sAnd (s2 (bCmp .Eq) (sCallD (mD c_read_web) (sCons (sCon (.str "4 0-1 2-3")) sNil)) (sTup (sCons (sCon (.int 4)) (sCons (sTup (sCons (sTup (sCons (sCon (.int 0)) (sCons (sCon (.int 1)) sNil))) (sCons (sTup (sCons (sCon (.int 2)) (sCons (sCon (.int 3)) sNil))) sNil))) sNil)))) (s2 (bCmp .Eq) (sCallD (mD c_web_text) (sCons (sCallD (mD c__law_round) (sCons (sCon (.int 3)) (sCons (sFrz (sLst (sCons (sCon (.int 1)) sNil))) sNil))) sNil)) (sCon (.str "3 0-1 0-2 1-2"))))) sSkip)))))
theorem body_law {k : Nat} (T : Txt B P w mg base Tb L cm) (c_web_text : List D → FD) (c_read_web : List D → FD) (c__law_pot_of : List D → FD) (c__law_round : List D → FD) (c__law_drawn : List D → List D → FL) (c__law_text : List D → FD) (c__law_bent : List D → List D → FL) (c__law_read_right : List D → FD) {l_web_text : Nat} (h_web_text : FnGood B P w mg base l_web_text "web_text" 1 (mD c_web_text)) (le_web_text : l_web_text ≤ k) {l_read_web : Nat} (h_read_web : FnGood B P w mg base l_read_web "read_web" 1 (mD c_read_web)) (le_read_web : l_read_web ≤ k) {l__law_pot_of : Nat} (h__law_pot_of : FnGood B P w mg base l__law_pot_of "_law_pot_of" 2 (mD c__law_pot_of)) (le__law_pot_of : l__law_pot_of ≤ k) {l__law_round : Nat} (h__law_round : FnGood B P w mg base l__law_round "_law_round" 2 (mD c__law_round)) (le__law_round : l__law_round ≤ k) {l__law_drawn : Nat} (h__law_drawn : FnGood B P w mg base l__law_drawn "_law_drawn" 3 (mR c__law_drawn)) (le__law_drawn : l__law_drawn ≤ k) {l__law_text : Nat} (h__law_text : FnGood B P w mg base l__law_text "_law_text" 1 (mD c__law_text)) (le__law_text : l__law_text ≤ k) {l__law_bent : Nat} (h__law_bent : FnGood B P w mg base l__law_bent "_law_bent" 2 (mR c__law_bent)) (le__law_bent : l__law_bent ≤ k) {l__law_read_right : Nat} (h__law_read_right : FnGood B P w mg base l__law_read_right "_law_read_right" 1 (mD c__law_read_right)) (le__law_read_right : l__law_read_right ≤ k) : ∀ (f c P1 : Addr), LamX.TabB base mg c P1 → (P1, lamName "law") ∈ Tb → (∀ p ∈ Tb, p.1 = P1 → p.2 = lamName "law") → ∀ (A : Around) (outer : List Env) (s : Shared) (H : Hp) (E : XK), Room (k + 3) (A.deeper (envOfC "law" (defScope st_law) s.heap.objs.size f (.ref c))) → PSs (cxOf (L2N.CX P w) P w B.K mg base ["script", "k", "pot", "turn", "grid", "text", "again", "bent", "odds", "odd"] "law" (defScope st_law) f (.ref c) A outer s H E) (defBody st_law) (tSt B (wishOf E) (fn_law c_web_text c_read_web c__law_pot_of c__law_round c__law_drawn c__law_text c__law_bent c__law_read_right)) := fun f c P1 TB hTm hTu A outer s H E hr => by
  have S := sc_law
  have hu := room_u hr
  have tk : L2N.Takes (cxOf (L2N.CX P w) P w B.K mg base ["script", "k", "pot", "turn", "grid", "text", "again", "bent", "odds", "odd"] "law" (defScope st_law) f (.ref c) A outer s H E) (wishOf E) := L2N.takes_of rfl rfl rfl rfl
  have hp : PassesOwn (model P w) (A.deeper (envOfC "law" (defScope st_law) s.heap.objs.size f (.ref c))) (envOfC "law" (defScope st_law) s.heap.objs.size f (.ref c)) (cxOf (L2N.CX P w) P w B.K mg base ["script", "k", "pot", "turn", "grid", "text", "again", "bent", "odds", "odd"] "law" (defScope st_law) f (.ref c) A outer s H E).xe := passes_of rfl
  exact (q_cons (gq_for hp rfl (gi_rng1 T.z_range (g_bin rfl r_int (g_callB (c_min rfl) T.z_min (g_cons (g_callB (c_len rfl) T.z_len (g_cons (g_var 0) r_nil)) (g_cons r_int r_nil))))) (gg_name 1 S.nd) (q_cons (gq_asgO 2 S.nd (g_callO rfl h__law_pot_of (hr.mono (Nat.le_trans le__law_pot_of (by omega))) tk (g_cons (g_var 0) (g_cons (g_var 1) r_nil)))) (q_cons (gq_for hp rfl (gi_rng1 T.z_range r_int) (gg_name 3 S.nd) (q_cons (gq_asg (g_callR 2 rfl h__law_drawn (hr.mono (Nat.le_trans le__law_drawn (by omega))) tk (g_cons r_int (g_cons r_int r_nil))) (gg_name 4 S.nd)) (q_cons (gq_asg (g_callD rfl h__law_text (hr.mono (Nat.le_trans le__law_text (by omega))) tk (g_cons (g_var 4) r_nil)) (gg_name 5 S.nd)) (q_cons (q_if (L2.PW.pt (rt_or (gt_cmp rfl hu (g_callD rfl h_web_text (hr.mono (Nat.le_trans le_web_text (by omega))) tk (g_cons (g_var 4) r_nil)) (g_var 5)) (pw_or1 (gt_cmp rfl hu (g_callD rfl h_read_web (hr.mono (Nat.le_trans le_read_web (by omega))) tk (g_cons (g_var 5) r_nil)) (g_var 4))))) (q_cons (q_ret r_bl) q_nil) q_nil) (q_cons (gq_for hp rfl (gi_rng1 T.z_range r_int) (gg_name 6 S.nd) (q_cons (gq_asg (g_callR 2 rfl h__law_bent (hr.mono (Nat.le_trans le__law_bent (by omega))) tk (g_cons (g_var 5) r_nil)) (gg_name 7 S.nd)) (q_cons (q_if (rt_not (gt_val (g_callD rfl h__law_read_right (hr.mono (Nat.le_trans le__law_read_right (by omega))) tk (g_cons (r_ite (gt_cmp rfl hu (g_bin rfl (g_var 6) r_int) r_int) (g_var 7) (g_callR 2 rfl h__law_bent (hr.mono (Nat.le_trans le__law_bent (by omega))) tk (g_cons (g_var 7) r_nil))) r_nil)))) (q_cons (q_ret r_bl) q_nil) q_nil) q_nil))) q_nil))))) (q_cons (q_if (gt_cmp rfl hu (g_word T.beq rfl (word_d T) kw_ok TB rfl rfl hTm hTu hr (fun A outer s H E f' c' hr => have hu := room_u hr; have tk : L2N.Takes (LamN.lamCxN _ A outer s H E _ f' c') (wishOf E) := L2N.takes_of rfl rfl rfl rfl; (g_callD rfl h_web_text (hr.mono (Nat.le_trans le_web_text (by omega))) tk (g_cons (g_frz (g_listOf rfl T.z_list (g_var 4))) r_nil)))) r_str) (q_cons (q_ret r_bl) q_nil) q_nil) q_nil)))) (q_cons (gq_asg (g_frz (r_lst (g_cons r_non (g_cons r_int (g_cons r_str (g_cons r_str (g_cons r_str (g_cons r_str (g_cons r_str (g_cons r_str (g_cons r_str r_nil))))))))))) (gg_name 8 S.nd)) (q_cons (gq_asg (g_bin rfl (g_var 8) (g_frz (r_lst (g_cons r_str (g_cons r_str (g_cons r_str (g_cons r_str (g_cons r_str (g_cons r_str (g_cons (g_frz (r_lst (g_cons r_str r_nil))) r_nil)))))))))) (gg_name 8 S.nd)) (q_cons (q_if (gt_cmp rfl hu (g_frz (g_lc [("odd", 9)] rfl S.nd (ri_items rfl (g_var 8)) (fun _ _ _ _ _ => (gg_name 9 S.nd)) (fun _ _ _ _ _ => (rp_one (gt_cmp rfl hu (g_word T.beq rfl (word_d T) kw_ok TB rfl rfl hTm hTu hr (fun A outer s H E f' c' hr => have hu := room_u hr; have tk : L2N.Takes (LamN.lamCxN _ A outer s H E _ f' c') (wishOf E) := L2N.takes_of rfl rfl rfl rfl; (g_callD rfl h_read_web (hr.mono (Nat.le_trans le_read_web (by omega))) tk (g_cons (g_var 9) r_nil)))) r_str))) (fun _ _ _ _ _ => (g_var 9)))) (g_frz (r_lst r_nil))) (q_cons (q_ret r_bl) q_nil) q_nil) (q_cons (q_ret (r_and (pos' := ⟨0, 0, 0, 0⟩) (g_cmp rfl hu (g_callD rfl h_read_web (hr.mono (Nat.le_trans le_read_web (by omega))) tk (g_cons r_str r_nil)) (r_tup (g_cons r_int (g_cons (r_tup (g_cons (r_tup (g_cons r_int (g_cons r_int r_nil))) (g_cons (r_tup (g_cons r_int (g_cons r_int r_nil))) r_nil))) r_nil)))) (pe_one (g_cmp rfl hu (g_callD rfl h_web_text (hr.mono (Nat.le_trans le_web_text (by omega))) tk (g_cons (g_callD rfl h__law_round (hr.mono (Nat.le_trans le__law_round (by omega))) tk (g_cons r_int (g_cons (g_frz (r_lst (g_cons r_int r_nil))) r_nil))) r_nil)) r_str)))) q_nil)))))
theorem ok_law {k : Nat} (T : Txt B P w mg base Tb L cm) (c_web_text : List D → FD) (c_read_web : List D → FD) (c__law_pot_of : List D → FD) (c__law_round : List D → FD) (c__law_drawn : List D → List D → FL) (c__law_text : List D → FD) (c__law_bent : List D → List D → FL) (c__law_read_right : List D → FD) {l_web_text : Nat} (h_web_text : FnGood B P w mg base l_web_text "web_text" 1 (mD c_web_text)) (le_web_text : l_web_text ≤ k) {l_read_web : Nat} (h_read_web : FnGood B P w mg base l_read_web "read_web" 1 (mD c_read_web)) (le_read_web : l_read_web ≤ k) {l__law_pot_of : Nat} (h__law_pot_of : FnGood B P w mg base l__law_pot_of "_law_pot_of" 2 (mD c__law_pot_of)) (le__law_pot_of : l__law_pot_of ≤ k) {l__law_round : Nat} (h__law_round : FnGood B P w mg base l__law_round "_law_round" 2 (mD c__law_round)) (le__law_round : l__law_round ≤ k) {l__law_drawn : Nat} (h__law_drawn : FnGood B P w mg base l__law_drawn "_law_drawn" 3 (mR c__law_drawn)) (le__law_drawn : l__law_drawn ≤ k) {l__law_text : Nat} (h__law_text : FnGood B P w mg base l__law_text "_law_text" 1 (mD c__law_text)) (le__law_text : l__law_text ≤ k) {l__law_bent : Nat} (h__law_bent : FnGood B P w mg base l__law_bent "_law_bent" 2 (mR c__law_bent)) (le__law_bent : l__law_bent ≤ k) {l__law_read_right : Nat} (h__law_read_right : FnGood B P w mg base l__law_read_right "_law_read_right" 1 (mD c__law_read_right)) (le__law_read_right : l__law_read_right ≤ k) : FnGood B P w mg base ((k + 3) + 1) "law" 1 (mD (runD 1 10 (fn_law c_web_text c_read_web c__law_pot_of c__law_round c__law_drawn c__law_text c__law_bent c__law_read_right))) :=
  good_DL T.dl_law sc_law (body_law T c_web_text c_read_web c__law_pot_of c__law_round c__law_drawn c__law_text c__law_bent c__law_read_right h_web_text le_web_text h_read_web le_read_web h__law_pot_of le__law_pot_of h__law_round le__law_round h__law_drawn le__law_drawn h__law_text le__law_text h__law_bent le__law_bent h__law_read_right le__law_read_right)
end
end K12

set_option maxRecDepth 100000
set_option maxHeartbeats 4000000
namespace K12
open PySem PySem.Spec PyProof.Rows L2 Rf
def r_is_int := runD 3 3 (fn_is_int)
def r_rises := runD 1 3 (fn_rises)
def r_is_tie := runD 2 2 (fn_is_tie r_is_int)
def r_degrees := runD 2 4 (fn_degrees)
def r_is_even := runD 2 4 (fn_is_even r_degrees)
def r_is_web_so := runD 1 2 (fn_is_web_so r_is_int r_rises r_is_tie r_is_even)
def r_need_web := runD 1 1 (fn_need_web r_is_web_so)
def r_figure_of := runD 1 1 (fn_figure_of)
def r_text_of := runD 1 3 (fn_text_of)
def r_web_of := runD 1 6 (fn_web_of r_is_web_so r_figure_of r_text_of)
def r_web_text := runD 1 1 (fn_web_text r_need_web r_text_of)
def r_read_web := runD 1 1 (fn_read_web r_web_of)
def r_pot_of := runD 2 3 (fn__law_pot_of)
def r_dip := runR 2 4 (fn__law_dip)
def r_any := runR 2 2 (fn__law_any r_dip)
def r_law_are_tied := runD 3 3 (fn__law_are_tied)
def r_round := runD 2 6 (fn__law_round)
def r_fours := runD 1 11 (fn__law_fours r_law_are_tied)
def r_behind := runD 2 9 (fn__law_behind)
def r_drawn := runR 3 9 (fn__law_drawn r_dip r_any r_round r_fours r_behind)
def r_text := runD 1 2 (fn__law_text)
def r_due := runD 1 8 (fn__law_due)
def r_bent := runR 2 5 (fn__law_bent r_dip r_any)
def r_read_right := runD 1 2 (fn__law_read_right r_read_web r_due)
def r_law := runD 1 10 (fn_law r_web_text r_read_web r_pot_of r_round r_drawn r_text r_bent r_read_right)
end K12

set_option maxRecDepth 100000
set_option maxHeartbeats 4000000
namespace K12
open PySem PySem.Spec PyProof.Rows L2 Rf
def tD (t : Int × Int) : D := .tuple [.int t.1, .int t.2]
def esD (es : List (Int × Int)) : D := .tuple (es.map tD)
def gD (n : Int) (es : List (Int × Int)) : D := .tuple [.int n, esD es]
theorem sh_tD (t : Int × Int) : shK 1 (tD t) := sh_tup (k := 0) (xs := [.int t.1, .int t.2]) fun x hx => by
  rcases List.mem_cons.mp hx with rfl | hx
  · exact sh_int _
  · rw [List.mem_singleton.mp hx]; exact sh_int _
theorem sh_tDs (es : List (Int × Int)) : ∀ x ∈ es.map tD, shK 1 x := fun x hx => by
  obtain ⟨t, _, rfl⟩ := List.mem_map.mp hx
  exact sh_tD t
theorem sh_esD (es : List (Int × Int)) : shK 2 (esD es) := sh_tup (sh_tDs es)
theorem eqv_tD (s t : Int × Int) : PyData.eqv (tD s) (tD t) = decide (s = t) := by
  obtain ⟨a, b⟩ := s
  obtain ⟨c, d⟩ := t
  simp only [tD, PyData.eqv, PyData.eqvAll, Bool.and_true]
  by_cases h1 : a = c
  · by_cases h2 : b = d
    · simp [h1, h2]
    · simp [h2]
  · simp [h1]
theorem any_tD (es : List (Int × Int)) (t : Int × Int) : ((es.map tD).any fun z => PyData.eqv z (tD t)) = decide (t ∈ es) := by
  induction es with
  | nil => rfl
  | cons e es ih =>
    rw [List.map_cons, List.any_cons, ih, eqv_tD]
    by_cases h1 : e = t
    · simp [h1]
    · have h2 : ¬ t = e := fun z => h1 z.symm
      simp [h1, h2]
theorem in_es (es : List (Int × Int)) (t : Int × Int) : dCmp .In (tD t) (esD es) = some (decide (t ∈ es)) := by
  show (if shaped (tD t) && shaped (esD es) then some ((es.map tD).any fun z => PyData.eqv z (tD t)) else none) = _
  rw [sh_of (sh_tD t), sh_of (sh_esD es), any_tD]; rfl
def isInt : D → Int → Int → Bool
  | .int i, lo, hi => decide (lo ≤ i) && decide (i ≤ hi)
  | _, _, _ => false
theorem v_is_int (v : D) (lo hi : Int) : r_is_int [v, .int lo, .int hi] = .ret (.bool (isInt v lo hi)) := by
  cases v with
  | int i =>
    unfold r_is_int fn_is_int isInt
    simp only [sSeq, OS.bind, O.run, O.bind, sRet, sRetO, sRetN, sSkip, sNever, sExpr, sIf, sAsg, Rf.bindT, Rf.bindN, Rf.bindL, sAsgO, Rf.ownN, sPar, sParO, sVar, sCon, sNil, sCons, sTup, sLst, sFrz, s2, lift, dBin, bCmp, sCmp2, sAnd, sOr, sNot, sIte, sNeg, dIx, sIxv, sSl, sPart, dSl, sItems, dItems, sRng, sZip, sCall, dLen, dMax, dMin, dInt, dAbs, dTuple, sIsi, sCallD_mD, sCallR_mR, heldAt, setL, sItem, sApp, runD, runR, start0, argsR, refAt0, refC, Option.bind, Option.map, List.map_cons, List.map_nil, List.length_cons, List.length_nil, List.replicate, List.cons_append, List.nil_append, List.getElem?_cons_zero, List.getElem?_cons_succ, List.set_cons_zero, List.set_cons_succ, Nat.reduceAdd, Nat.reduceSub, reduceIte, Nat.reduceLeDiff, Nat.add_zero, Nat.zero_add, dCmp]
    have e1 : isTy "int" (.int i) = true := rfl
    have e2 : isTy "bool" (.int i) = false := rfl
    rw [e1, e2]
    cases decide (lo ≤ i) <;> rfl
  | _ => rfl
/-- tied, either way -/
def tie (es : List (Int × Int)) (a b : Int) : Bool := decide ((a, b) ∈ es) || decide ((b, a) ∈ es)
theorem v_law_are_tied (n : Int) (es : List (Int × Int)) (a b : Int) : r_law_are_tied [gD n es, .int a, .int b] = .ret (.bool (tie es a b)) := by
  unfold r_law_are_tied fn__law_are_tied gD
  have e0 : atI [PyData.int n, esD es] 1 = some (esD es) := rfl
  have e1 := in_es es (a, b)
  have e2 := in_es es (b, a)
  unfold tD at e1 e2
  simp only [sSeq, OS.bind, O.run, O.bind, sRet, sSkip, sVar, sCon, sNil, sCons, sTup, s2, lift, bCmp, sOr, dIx, runD, start0, argsR, Option.map, List.map_cons, List.map_nil, List.length_cons, List.length_nil, List.replicate, List.cons_append, List.nil_append, List.getElem?_cons_zero, List.getElem?_cons_succ, e0, e1, e2, Nat.reduceAdd, Nat.reduceSub, Nat.reduceLeDiff, reduceIte, Nat.zero_add]
  unfold tie
  cases decide ((a, b) ∈ es) <;> rfl
end K12

set_option maxRecDepth 100000
set_option maxHeartbeats 4000000
namespace K12
open PySem PySem.Spec PyProof.Rows L2 Rf
/-- 0 .. n - 1 -/
def rng (n : Int) : List Int := (List.range n.toNat).map fun (k : Nat) => (k : Int)
theorem mem_rng {n k : Int} : k ∈ rng n ↔ 0 ≤ k ∧ k < n := by
  unfold rng
  rw [List.mem_map]
  constructor
  · rintro ⟨j, h, rfl⟩
    have := List.mem_range.mp h
    omega
  · intro h
    exact ⟨k.toNat, List.mem_range.mpr (by omega), by omega⟩
theorem rngD (n : Int) : rangeD 0 n.toNat = (rng n).map PyData.int := by
  unfold rangeD rng
  rw [List.map_map]
  refine List.map_congr_left fun k _ => ?_
  show PyData.int _ = PyData.int _
  simp
theorem rng_nodup (n : Int) : (rng n).Nodup := List.pairwise_map.mpr (List.nodup_range.imp fun {a b} h e => h (by have e : (a : Int) = (b : Int) := e; omega))
theorem rng_length (n : Int) : (rng n).length = n.toNat := by unfold rng; rw [List.length_map, List.length_range]
/-- good numbers of places -/
def Small (n : Int) : Prop := 0 ≤ n ∧ n ≤ 1000
theorem filter_ints (p : D → Bool) (q : Int → Bool) : ∀ l : List Int, (∀ k ∈ l, p (.int k) = q k) → ((l.map PyData.int).filter p).map id = (l.filter q).map PyData.int
  | [], _ => rfl
  | k :: l, h => by
    have ih := filter_ints p q l fun j hj => h j (List.mem_cons_of_mem _ hj)
    rw [List.map_cons]
    cases e : q k with
    | true => rw [List.filter_cons_of_pos (by rw [h k List.mem_cons_self, e]), List.filter_cons_of_pos e, List.map_cons, List.map_cons, ih]; rfl
    | false => rw [List.filter_cons_of_neg (by rw [h k List.mem_cons_self, e]; decide), List.filter_cons_of_neg (by rw [e]; decide), ih]
/-- the places tied to one, ascending -/
def mts (n : Int) (es : List (Int × Int)) (a : Int) : List Int := (rng n).filter (tie es a)
end K12

set_option maxRecDepth 100000
set_option maxHeartbeats 4000000
namespace K12
open PySem PySem.Spec PyProof.Rows L2 Rf
theorem sh_i (i : Int) : shaped (.int i) = true := sh_of (sh_int (k := 0) i)
theorem ne_ii (i j : Int) : dCmp .NotEq (.int i) (.int j) = some (!(i == j)) := by
  show (if shaped (.int i) && shaped (.int j) then some (!PyData.eqv (.int i) (.int j)) else none) = _
  rw [sh_i, sh_i]; rfl
theorem eq_ii (i j : Int) : dCmp .Eq (.int i) (.int j) = some (i == j) := by
  show (if shaped (.int i) && shaped (.int j) then some (PyData.eqv (.int i) (.int j)) else none) = _
  rw [sh_i, sh_i]; rfl
def tieOf (n : Int) : D → Option (Int × Int)
  | .tuple [.int a, .int b] => if 0 ≤ a ∧ a ≤ n - 1 ∧ a + 1 ≤ b ∧ b ≤ n - 1 then some (a, b) else none
  | _ => none
/-- the two calls of is_tie, told -/
def tieB (n : Int) : D → Bool
  | .tuple [u, v] => match u with
    | .int a => isInt (.int a) 0 (n - 1) && isInt v (a + 1) (n - 1)
    | _ => false
  | _ => false
theorem tieB_of (n : Int) (x : D) : tieB n x = (tieOf n x).isSome := by
  unfold tieB tieOf
  split
  · rename_i u v
    cases u with
    | int a =>
      cases v with
      | int b =>
        simp only [isInt]
        by_cases h1 : 0 ≤ a <;> by_cases h2 : a ≤ n - 1 <;> by_cases h3 : a + 1 ≤ b <;> by_cases h4 : b ≤ n - 1 <;> simp [h1, h2, h3, h4]
      | _ => simp [isInt]
    | _ => rfl
  · rename_i h
    split
    · rename_i a b; exact absurd rfl (h _ _)
    · rfl
theorem v_is_tie (n : Int) (x : D) : r_is_tie [.int n, x] = .ret (.bool (tieB n x)) := by
  cases x with
  | tuple l =>
    match l with
    | [] => rfl
    | [_] => rfl
    | [u, v] =>
      have e1 : r_is_int [u, .int 0, .int (n - 1)] = .ret (.bool (isInt u 0 (n - 1))) := v_is_int u 0 (n - 1)
      have e0 : ((2 : Nat) : Int) = 2 := rfl
      have e7 : (!((2 : Int) == 2)) = false := rfl
      have e3 : isTy "tuple" (.tuple [u, v]) = true := rfl
      have e4 : atI [u, v] 0 = some u := rfl
      have e5 : atI [u, v] 1 = some v := rfl
      unfold r_is_tie fn_is_tie
      simp only [sSeq, OS.bind, O.run, O.bind, sRet, sRetO, sRetN, sSkip, sNever, sExpr, sIf, sAsg, Rf.bindT, Rf.bindN, Rf.bindL, sAsgO, Rf.ownN, sPar, sParO, sVar, sCon, sNil, sCons, sTup, sLst, sFrz, s2, lift, dBin, bCmp, sCmp2, sAnd, sOr, sNot, sIte, sNeg, dIx, sIxv, sSl, sPart, dSl, sItems, dItems, sRng, sZip, sCall, dLen, dMax, dMin, dInt, dAbs, dTuple, sIsi, sCallD_mD, sCallR_mR, heldAt, setL, sItem, sApp, runD, runR, start0, argsR, refAt0, refC, Option.bind, Option.map, List.map_cons, List.map_nil, List.length_cons, List.length_nil, List.replicate, List.cons_append, List.nil_append, List.getElem?_cons_zero, List.getElem?_cons_succ, List.set_cons_zero, List.set_cons_succ, Nat.reduceAdd, Nat.reduceSub, reduceIte, Nat.reduceLeDiff, Nat.add_zero, Nat.zero_add, ne_ii, e0, e7, e1, e3, e4, e5, Bool.not_true, Bool.not_false]
      cases u with
      | int a =>
        show _ = FD.ret (.bool (isInt (.int a) 0 (n - 1) && isInt v (a + 1) (n - 1)))
        cases e : isInt (.int a) 0 (n - 1) with
        | false => rfl
        | true =>
          have e6 := v_is_int v (a + 1) (n - 1)
          simp only [sSeq, OS.bind, O.run, O.bind, sRet, sRetO, sRetN, sSkip, sNever, sExpr, sIf, sAsg, Rf.bindT, Rf.bindN, Rf.bindL, sAsgO, Rf.ownN, sPar, sParO, sVar, sCon, sNil, sCons, sTup, sLst, sFrz, s2, lift, dBin, bCmp, sCmp2, sAnd, sOr, sNot, sIte, sNeg, dIx, sIxv, sSl, sPart, dSl, sItems, dItems, sRng, sZip, sCall, dLen, dMax, dMin, dInt, dAbs, dTuple, sIsi, sCallD_mD, sCallR_mR, heldAt, setL, sItem, sApp, runD, runR, start0, argsR, refAt0, refC, Option.bind, Option.map, List.map_cons, List.map_nil, List.length_cons, List.length_nil, List.replicate, List.cons_append, List.nil_append, List.getElem?_cons_zero, List.getElem?_cons_succ, List.set_cons_zero, List.set_cons_succ, Nat.reduceAdd, Nat.reduceSub, reduceIte, Nat.reduceLeDiff, Nat.add_zero, Nat.zero_add, e4, e5, e6, Bool.not_true, Bool.true_and]
      | _ => rfl
    | a :: b :: c :: r =>
      have e0 : (!(((r.length + 1 + 1 + 1 : Nat) : Int) == 2)) = true := by
        have : ¬ (((r.length + 1 + 1 + 1 : Nat)) : Int) = 2 := by omega
        rw [beq_eq_false_iff_ne.mpr this]; rfl
      have e3 : isTy "tuple" (.tuple (a :: b :: c :: r)) = true := rfl
      unfold r_is_tie fn_is_tie
      simp only [sSeq, OS.bind, O.run, O.bind, sRet, sRetO, sRetN, sSkip, sNever, sExpr, sIf, sAsg, Rf.bindT, Rf.bindN, Rf.bindL, sAsgO, Rf.ownN, sPar, sParO, sVar, sCon, sNil, sCons, sTup, sLst, sFrz, s2, lift, dBin, bCmp, sCmp2, sAnd, sOr, sNot, sIte, sNeg, dIx, sIxv, sSl, sPart, dSl, sItems, dItems, sRng, sZip, sCall, dLen, dMax, dMin, dInt, dAbs, dTuple, sIsi, sCallD_mD, sCallR_mR, heldAt, setL, sItem, sApp, runD, runR, start0, argsR, refAt0, refC, Option.bind, Option.map, List.map_cons, List.map_nil, List.length_cons, List.length_nil, List.replicate, List.cons_append, List.nil_append, List.getElem?_cons_zero, List.getElem?_cons_succ, List.set_cons_zero, List.set_cons_succ, Nat.reduceAdd, Nat.reduceSub, reduceIte, Nat.reduceLeDiff, Nat.add_zero, Nat.zero_add, ne_ii, e3, e0, Bool.not_true]
      rfl
  | _ => rfl
end K12

set_option maxRecDepth 100000
set_option maxHeartbeats 4000000
namespace K12
open PySem PySem.Spec PyProof.Rows L2 Rf
theorem eqv_nil (l : List D) : PyData.eqv (.list l) (.list []) = l.isEmpty := by
  cases l with
  | nil => simp [PyData.eqv, PyData.eqvAll]
  | cons a l => simp [PyData.eqv, PyData.eqvAll]
theorem sh_nil {k : Nat} : shK (k + 1) (.list []) := sh_list fun x hx => nomatch hx
theorem eq_nil {l : List D} (h : ∀ x ∈ l, shK 60 x) : dCmp .Eq (.list l) (.list []) = some l.isEmpty := by
  show (if shaped (.list l) && shaped (.list []) then some (PyData.eqv (.list l) (.list [])) else none) = _
  rw [sh_of (sh_list h), sh_of (sh_nil (k := 0)), eqv_nil]; rfl
theorem ne_nil {l : List D} (h : ∀ x ∈ l, shK 60 x) : dCmp .NotEq (.list l) (.list []) = some (!l.isEmpty) := by
  show (if shaped (.list l) && shaped (.list []) then some (!PyData.eqv (.list l) (.list [])) else none) = _
  rw [sh_of (sh_list h), sh_of (sh_nil (k := 0)), eqv_nil]; rfl
theorem sh_up {j k : Nat} {d : D} (h : shK j d) (hjk : j ≤ k) : shK k d := ⟨h.1, Nat.le_trans h.2 hjk⟩
/-! ### how many ties a place has -/
def has (p : Int) (t : Int × Int) : Bool := t.1 == p || t.2 == p
def deg (es : List (Int × Int)) (p : Int) : Nat := (es.filter (has p)).length
theorem in_tD (p : Int) (t : Int × Int) : dCmp .In (.int p) (tD t) = some (has p t) := by
  show (if shaped (.int p) && shaped (tD t) then some ([PyData.int t.1, PyData.int t.2].any fun z => PyData.eqv z (.int p)) else none) = _
  rw [sh_i, sh_of (sh_tD t)]
  simp [has, PyData.eqv]
theorem filter_map_eq {α : Type} (f : α → D) (p : D → Bool) (q : α → Bool) : ∀ l : List α, (∀ k ∈ l, p (f k) = q k) → (l.map f).filter p = (l.filter q).map f
  | [], _ => rfl
  | k :: l, h => by
    have ih := filter_map_eq f p q l fun j hj => h j (List.mem_cons_of_mem _ hj)
    rw [List.map_cons]
    cases e : q k with
    | true => rw [List.filter_cons_of_pos (by rw [h k List.mem_cons_self, e]), List.filter_cons_of_pos e, List.map_cons, ih]
    | false => rw [List.filter_cons_of_neg (by rw [h k List.mem_cons_self, e]; decide), List.filter_cons_of_neg (by rw [e]; decide), ih]
theorem v_degrees {n : Int} (es : List (Int × Int)) (hn : Small n) : r_degrees [.int n, esD es] = .ret (.list ((rng n).map fun p => .int (deg es p))) := by
  have inner : ∀ p : Int, sLc (.nm 3) [3] (sItems (sVar 1)) (s2 (bCmp .In) (sVar 2) (sVar 3)) (sVar 3) [some (.dat (.int n)), some (.dat (esD es)), some (.dat (.int p)), none] = .ok ((es.filter (has p)).map tD) [some (.dat (.int n)), some (.dat (esD es)), some (.dat (.int p)), none] := fun p => by
    refine Eq.trans (slc_pure (ρ0 := [some (.dat (.int n)), some (.dat (esD es)), some (.dat (.int p)), none]) (xs := es.map tD) (fun d => (dCmp .In (.int p) d).getD false) id rfl rfl rfl rfl ?_) ?_
    rotate_left
    · rw [List.map_id, filter_map_eq tD _ (has p) _ fun t _ => by rw [in_tD]; rfl]
    · intro x hx
      obtain ⟨t, _, rfl⟩ := List.mem_map.mp hx
      refine ⟨[some (.dat (.int n)), some (.dat (esD es)), some (.dat (.int p)), some (.dat (tD t))], rfl, ?_, fun _ => rfl, rfl⟩
      show (match (dCmp .In (.int p) (tD t)).map PyData.bool with | some z => O.ok z _ | none => O.no) = _
      rw [in_tD]; rfl
  have key := slc_pure (t := .nm 2) (vs := [2]) (fi := sRng (sCons (sVar 0) sNil)) (fc := sYes) (fe := sCall dLen (sCons (sFrz (sLc (.nm 3) [3] (sItems (sVar 1)) (s2 (bCmp .In) (sVar 2) (sVar 3)) (sVar 3))) sNil)) (ρ := [some (.dat (.int n)), some (.dat (esD es)), none, none]) (ρ0 := [some (.dat (.int n)), some (.dat (esD es)), none, none]) (xs := (rng n).map PyData.int)
    (fun _ => true) (fun d => match d with | .int p => .int (deg es p) | _ => .none) (by
      rw [← rngD]
      show (if -(2 ^ 62) ≤ n ∧ n ≤ 16777216 then _ else _) = _
      rw [if_pos (by have := hn.1; have := hn.2; omega)]) rfl rfl rfl (fun x hx => by
      obtain ⟨p, _, rfl⟩ := List.mem_map.mp hx
      refine ⟨[some (.dat (.int n)), some (.dat (esD es)), some (.dat (.int p)), none], rfl, rfl, fun _ => ?_, rfl⟩
      unfold sCall sCons sFrz
      rw [inner p]
      show O.ok (PyData.int (((es.filter (has p)).map tD).length : Nat)) _ = _
      rw [List.length_map]; rfl)
  show (match ((sFrz (sLc (.nm 2) [2] (sRng (sCons (sVar 0) sNil)) sYes (sCall dLen (sCons (sFrz (sLc (.nm 3) [3] (sItems (sVar 1)) (s2 (bCmp .In) (sVar 2) (sVar 3)) (sVar 3))) sNil))) [some (.dat (.int n)), some (.dat (esD es)), none, none]).run fun d ρ1 => .ret d ρ1).bind sSkip with | .nx _ => FD.ret .none | .ret d _ => .ret d | .retO l _ => .retO l | .retK l _ => .retK l | .retV k l _ => .retV k l | .ex e _ => .exc e | .no => .no) = _
  unfold sFrz
  unfold sFrz at key
  rw [key, List.filter_eq_self.mpr fun _ _ => rfl, List.map_map]
  rfl
def even (n : Int) (es : List (Int × Int)) : Bool := decide (0 < deg es 0) && (rng n).all fun p => deg es p == deg es 0
theorem gt_ii (i j : Int) : dCmp .Gt (.int i) (.int j) = some (decide (j < i)) := rfl
theorem v_is_even {n : Int} (es : List (Int × Int)) (hn : Small n) (h0 : 0 < n) : r_is_even [.int n, esD es] = .ret (.bool (even n es)) := by
  have e0 : atI ((rng n).map fun p => PyData.int (deg es p)) 0 = some (.int (deg es 0)) := by
    refine atI_nat (j := 0) ?_
    rw [List.getElem?_map]
    have : (rng n)[0]? = some 0 := by
      unfold rng
      rw [List.getElem?_map, List.getElem?_range (by omega)]; rfl
    rw [this]; rfl
  have comp : sLc (.nm 3) [3] (sItems (sVar 2)) (s2 (bCmp .NotEq) (sVar 3) (s2 dIx (sVar 2) (sCon (.int 0)))) (sVar 3) [some (.dat (.int n)), some (.dat (esD es)), some (.dat (.list ((rng n).map fun p => .int (deg es p)))), none] = .ok (((rng n).filter fun p => !(((deg es p : Nat) : Int) == deg es 0)).map fun p => .int (deg es p)) [some (.dat (.int n)), some (.dat (esD es)), some (.dat (.list ((rng n).map fun p => .int (deg es p)))), none] := by
    refine Eq.trans (slc_pure (ρ0 := [some (.dat (.int n)), some (.dat (esD es)), some (.dat (.list ((rng n).map fun p => .int (deg es p)))), none]) (xs := (rng n).map fun p => .int (deg es p)) (fun d => (dCmp .NotEq d (.int (deg es 0))).getD false) id rfl rfl rfl rfl ?_) ?_
    rotate_left
    · rw [List.map_id, filter_map_eq _ _ (fun p => !(((deg es p : Nat) : Int) == deg es 0)) _ fun t _ => by rw [ne_ii]; rfl]
    · intro x hx
      obtain ⟨p, _, rfl⟩ := List.mem_map.mp hx
      refine ⟨[some (.dat (.int n)), some (.dat (esD es)), some (.dat (.list ((rng n).map fun p => .int (deg es p)))), some (.dat (.int (deg es p)))], rfl, ?_, fun _ => rfl, rfl⟩
      simp only [s2, sVar, sCon, O.bind, lift, dIx, List.getElem?_cons_zero, List.getElem?_cons_succ, e0, bCmp, ne_ii, Option.map]
      rfl
  have hs : ∀ x ∈ ((rng n).filter fun p => !(((deg es p : Nat) : Int) == deg es 0)).map (fun p => PyData.int (deg es p)), shK 60 x := fun x hx => by
    obtain ⟨p, _, rfl⟩ := List.mem_map.mp hx
    exact sh_int _
  unfold r_is_even fn_is_even
  have hd := v_degrees es hn
  simp only [sSeq, OS.bind, O.run, O.bind, sRet, sRetO, sRetN, sSkip, sNever, sExpr, sIf, sAsg, Rf.bindT, Rf.bindN, Rf.bindL, sAsgO, Rf.ownN, sPar, sParO, sVar, sCon, sNil, sCons, sTup, sLst, sFrz, s2, lift, dBin, bCmp, sCmp2, sAnd, sOr, sNot, sIte, sNeg, dIx, sIxv, sSl, sPart, dSl, sItems, dItems, sRng, sZip, sCall, dLen, dMax, dMin, dInt, dAbs, dTuple, sIsi, sCallD_mD, sCallR_mR, heldAt, setL, sItem, sApp, runD, runR, start0, argsR, refAt0, refC, Option.bind, Option.map, List.map_cons, List.map_nil, List.length_cons, List.length_nil, List.replicate, List.cons_append, List.nil_append, List.getElem?_cons_zero, List.getElem?_cons_succ, List.set_cons_zero, List.set_cons_succ, Nat.reduceAdd, Nat.reduceSub, reduceIte, Nat.reduceLeDiff, Nat.add_zero, Nat.zero_add, hd, e0, gt_ii, comp, eq_nil hs]
  unfold even
  have e1 : decide ((0 : Int) < ((deg es 0 : Nat) : Int)) = decide (0 < deg es 0) := decide_eq_decide.mpr (by omega)
  rw [e1]
  cases decide (0 < deg es 0) with
  | false => rfl
  | true =>
    have e2 : (((rng n).filter fun p => !(((deg es p : Nat) : Int) == deg es 0)).map fun p => PyData.int (deg es p)).isEmpty = (rng n).all fun p => deg es p == deg es 0 := by
      rw [List.isEmpty_map, Bool.eq_iff_iff, List.isEmpty_iff, List.filter_eq_nil_iff, List.all_eq_true]
      refine forall_congr' fun p => imp_congr_right fun _ => ?_
      simp
      omega
    rw [e2]; rfl
end K12

set_option maxRecDepth 100000
set_option maxHeartbeats 4000000
namespace K12
open PySem PySem.Spec PyProof.Rows L2 Rf
theorem cut1 {α : Type} (xs : List α) : cutL xs (some 1) none = xs.tail := by
  cases xs with
  | nil => rfl
  | cons x xs =>
    unfold cutL HT.sIx
    simp
def ltT (s t : Int × Int) : Bool := HT.lexLt [s.1, s.2] [t.1, t.2]
def asc (es : List (Int × Int)) : Bool := (es.zip es.tail).all fun p => ltT p.1 p.2
theorem lt_tD (s t : Int × Int) : dCmp .Lt (tD s) (tD t) = some (ltT s t) := rfl
theorem zip_tD : ∀ as bs : List (Int × Int), List.zipWith pairD (as.map tD) (bs.map tD) = (as.zip bs).map fun p => pairD (tD p.1) (tD p.2)
  | [], _ => rfl
  | _ :: _, [] => rfl
  | a :: as, b :: bs => by
    rw [List.map_cons, List.map_cons, List.zipWith_cons_cons, List.zip_cons_cons, List.map_cons, zip_tD as bs]
theorem v_rises (es : List (Int × Int)) : r_rises [esD es] = .ret (.bool (asc es)) := by
  have comp : sLc (.tp [1, 2]) [1, 2] (sZip (sCons (sVar 0) (sCons (sSl (sVar 0) (sPart (some (sCon (.int 1)))) (sPart none)) sNil))) (sNot (s2 (bCmp .Lt) (sVar 1) (sVar 2))) (sCon (.int 1)) [some (.dat (esD es)), none, none] = .ok (((es.zip es.tail).filter fun p => !ltT p.1 p.2).map fun _ => .int 1) [some (.dat (esD es)), none, none] := by
    refine Eq.trans (slc_pure (ρ0 := [some (.dat (esD es)), none, none]) (xs := (es.zip es.tail).map fun p => pairD (tD p.1) (tD p.2)) (fun d => match d with | .tuple [a, b] => !((dCmp .Lt a b).getD false) | _ => false) (fun _ => .int 1) ?_ rfl rfl rfl ?_) ?_
    · rw [← zip_tD]
      show O.ok (List.zipWith pairD (es.map tD) (cutL (es.map tD) (some 1) none)) _ = _
      rw [cut1, List.map_tail]
    · intro x hx
      obtain ⟨p, _, rfl⟩ := List.mem_map.mp hx
      refine ⟨[some (.dat (esD es)), some (.dat (tD p.1)), some (.dat (tD p.2))], rfl, rfl, fun _ => rfl, rfl⟩
    · rw [filter_map_eq _ _ (fun p => !ltT p.1 p.2) _ fun _ _ => rfl, List.map_map]; rfl
  have hs : ∀ x ∈ ((es.zip es.tail).filter fun p => !ltT p.1 p.2).map (fun _ => PyData.int 1), shK 60 x := fun x hx => by
    obtain ⟨p, _, rfl⟩ := List.mem_map.mp hx
    exact sh_int _
  have e0 : sLst sNil [some (.dat (esD es)), none, none] = .ok [] [some (.dat (esD es)), none, none] := rfl
  unfold r_rises fn_rises
  simp only [sSeq, OS.bind, O.run, O.bind, sRet, sRetO, sRetN, sSkip, sNever, sExpr, sIf, sAsg, Rf.bindT, Rf.bindN, Rf.bindL, sAsgO, Rf.ownN, sPar, sParO, sVar, sCon, sNil, sCons, sTup, sLst, sFrz, s2, lift, dBin, bCmp, sCmp2, sAnd, sOr, sNot, sIte, sNeg, dIx, sIxv, sSl, sPart, dSl, sItems, dItems, sRng, sZip, sCall, dLen, dMax, dMin, dInt, dAbs, dTuple, sIsi, sCallD_mD, sCallR_mR, heldAt, setL, sItem, sApp, runD, runR, start0, argsR, refAt0, refC, Option.bind, Option.map, List.map_cons, List.map_nil, List.length_cons, List.length_nil, List.replicate, List.cons_append, List.nil_append, List.getElem?_cons_zero, List.getElem?_cons_succ, List.set_cons_zero, List.set_cons_succ, Nat.reduceAdd, Nat.reduceSub, reduceIte, Nat.reduceLeDiff, Nat.add_zero, Nat.zero_add, comp, eq_nil hs]
  unfold asc
  have e2 : (((es.zip es.tail).filter fun p => !ltT p.1 p.2).map fun _ => PyData.int 1).isEmpty = (es.zip es.tail).all fun p => ltT p.1 p.2 := by
    rw [List.isEmpty_map, Bool.eq_iff_iff, List.isEmpty_iff, List.filter_eq_nil_iff, List.all_eq_true]
    refine forall_congr' fun p => imp_congr_right fun _ => ?_
    simp
  rw [e2]
/-! ### webs -/
def tiesOf (n : Int) : List D → Option (List (Int × Int))
  | [] => some []
  | x :: xs => match tieOf n x, tiesOf n xs with
    | some t, some ts => some (t :: ts)
    | _, _ => none
theorem tieOf_eq {n : Int} {x : D} {t : Int × Int} (h : tieOf n x = some t) : x = tD t := by
  unfold tieOf at h
  split at h
  · split at h
    · cases h; rfl
    · cases h
  · cases h
theorem tiesOf_eq {n : Int} : ∀ {xs : List D} {ts : List (Int × Int)}, tiesOf n xs = some ts → xs = ts.map tD
  | [], ts, h => by cases h; rfl
  | x :: xs, ts, h => by
    unfold tiesOf at h
    split at h
    · rename_i t us h1 h2
      cases h
      rw [tieOf_eq h1, tiesOf_eq h2]; rfl
    · cases h
theorem tiesOf_none {n : Int} : ∀ {xs : List D}, tiesOf n xs = none ↔ ∃ x ∈ xs, tieB n x = false
  | [] => by simp [tiesOf]
  | x :: xs => by
    unfold tiesOf
    have ih := tiesOf_none (n := n) (xs := xs)
    have ex : (∃ y ∈ x :: xs, tieB n y = false) ↔ tieB n x = false ∨ ∃ y ∈ xs, tieB n y = false := by
      constructor
      · rintro ⟨y, h1, h2⟩
        rcases List.mem_cons.mp h1 with rfl | h1
        · exact .inl h2
        · exact .inr ⟨y, h1, h2⟩
      · rintro (h | ⟨y, h1, h2⟩)
        · exact ⟨x, List.mem_cons_self, h⟩
        · exact ⟨y, List.mem_cons_of_mem _ h1, h2⟩
    rw [ex, ← ih, tieB_of]
    cases tieOf n x <;> cases tiesOf n xs <;> simp
def isWebD : D → Bool
  | .tuple [.int n, .tuple ts] => decide (3 ≤ n) && decide (n ≤ 8) && match tiesOf n ts with
    | some es => asc es && even n es
    | none => false
  | _ => false
theorem sh_all_inv {k : Nat} : ∀ {xs : List D}, PyData.canLayAll0 xs = true → PyData.depthAll xs ≤ k → ∀ x ∈ xs, shK k x
  | y :: ys, h1, h2, x, hx => by
    simp only [PyData.canLayAll0, Bool.and_eq_true] at h1
    simp only [PyData.depthAll] at h2
    rcases List.mem_cons.mp hx with rfl | hx
    · exact ⟨h1.1, by omega⟩
    · exact sh_all_inv h1.2 (by omega) x hx
theorem sh_tup_inv {k : Nat} {xs : List D} (h : shK k (.tuple xs)) : ∀ x ∈ xs, shK k x := by
  obtain ⟨h1, h2⟩ := h
  simp only [PyData.canLay0] at h1
  simp only [PyData.depth] at h2
  exact sh_all_inv h1 (by omega)
theorem even_of {n : Int} {es : List (Int × Int)} (h : even n es = true) : 0 < deg es 0 ∧ ∀ p, 0 ≤ p → p < n → deg es p = deg es 0 := by
  unfold even at h
  rw [Bool.and_eq_true, List.all_eq_true] at h
  exact ⟨of_decide_eq_true h.1, fun p h1 h2 => by simpa using h.2 p (mem_rng.mpr ⟨h1, h2⟩)⟩
theorem web_tail {n : Int} {ts : List D} (hn : 3 ≤ n ∧ n ≤ 8) (hd : ∀ x ∈ ts, shK 60 x) :
    runD 1 2 (fn_is_web_so r_is_int r_rises r_is_tie r_is_even) [.tuple [.int n, .tuple ts]] = .ret (.bool (match tiesOf n ts with | some es => asc es && even n es | none => false)) := by
  have hs : Small n := ⟨by omega, by omega⟩
  have e1 : r_is_int [.int n, .int 3, .int 8] = .ret (.bool true) := by
    rw [v_is_int]
    show FD.ret (.bool (decide (3 ≤ n) && decide (n ≤ 8))) = _
    rw [decide_eq_true hn.1, decide_eq_true hn.2]; rfl
  have e7 : (!((2 : Int) == 2)) = false := rfl
  have e8 : ((2 : Nat) : Int) = 2 := rfl
  have e3 : isTy "tuple" (.tuple [.int n, .tuple ts]) = true := rfl
  have e3' : isTy "tuple" (.tuple ts) = true := rfl
  have e4 : atI [PyData.int n, .tuple ts] 0 = some (.int n) := rfl
  have e5 : atI [PyData.int n, .tuple ts] 1 = some (.tuple ts) := rfl
  have comp : sLc (.nm 1) [1] (sItems (s2 dIx (sVar 0) (sCon (.int 1)))) (sNot (sCallD (mD r_is_tie) (sCons (s2 dIx (sVar 0) (sCon (.int 0))) (sCons (sVar 1) sNil)))) (sVar 1) [some (.dat (.tuple [.int n, .tuple ts])), none] = .ok (ts.filter fun x => !tieB n x) [some (.dat (.tuple [.int n, .tuple ts])), none] := by
    refine Eq.trans (slc_pure (ρ0 := [some (.dat (.tuple [.int n, .tuple ts])), none]) (xs := ts) (fun x => !tieB n x) id rfl rfl rfl rfl ?_) (by rw [List.map_id])
    intro x hx
    refine ⟨[some (.dat (.tuple [.int n, .tuple ts])), some (.dat x)], rfl, ?_, fun _ => rfl, rfl⟩
    unfold sNot
    rw [sCallD_mD]
    show (O.bind (match r_is_tie [.int n, x] with | .ret d => O.ok d _ | .retO l => O.ok (.list l) _ | .retK _ => O.no | .retV _ _ => O.no | .exc e => O.ex e _ | .no => O.no) _) = _
    rw [v_is_tie]; rfl
  have hs2 : ∀ x ∈ ts.filter (fun x => !tieB n x), shK 60 x := fun x hx => hd x (List.mem_filter.mp hx).1
  unfold fn_is_web_so
  simp only [sSeq, OS.bind, O.run, O.bind, sRet, sRetO, sRetN, sSkip, sNever, sExpr, sIf, sAsg, Rf.bindT, Rf.bindN, Rf.bindL, sAsgO, Rf.ownN, sPar, sParO, sVar, sCon, sNil, sCons, sTup, sLst, sFrz, s2, lift, dBin, bCmp, sCmp2, sAnd, sOr, sNot, sIte, sNeg, dIx, sIxv, sSl, sPart, dSl, sItems, dItems, sRng, sZip, sCall, dLen, dMax, dMin, dInt, dAbs, dTuple, sIsi, sCallD_mD, sCallR_mR, heldAt, setL, sItem, sApp, runD, runR, start0, argsR, refAt0, refC, Option.bind, Option.map, List.map_cons, List.map_nil, List.length_cons, List.length_nil, List.replicate, List.cons_append, List.nil_append, List.getElem?_cons_zero, List.getElem?_cons_succ, List.set_cons_zero, List.set_cons_succ, Nat.reduceAdd, Nat.reduceSub, reduceIte, Nat.reduceLeDiff, Nat.add_zero, Nat.zero_add, ne_ii, e1, e7, e8, e3, e3', e4, e5, comp, ne_nil hs2, Bool.not_true, Bool.not_false]
  cases et : tiesOf n ts with
  | none =>
    obtain ⟨x, h1, h2⟩ := tiesOf_none.mp et
    have e9 : (ts.filter fun x => !tieB n x).isEmpty = false := by
      rw [Bool.eq_false_iff]
      intro z
      have := List.isEmpty_iff.mp z
      have m : x ∈ ts.filter fun x => !tieB n x := List.mem_filter.mpr ⟨h1, by rw [h2]; rfl⟩
      rw [this] at m; cases m
    rw [e9]; rfl
  | some es =>
    have ee := tiesOf_eq et
    have e9 : (ts.filter fun x => !tieB n x).isEmpty = true := by
      rw [List.isEmpty_iff, List.filter_eq_nil_iff]
      intro x hx z
      have := tiesOf_none.mpr ⟨x, hx, by simpa using z⟩
      rw [et] at this; cases this
    have e10 : r_rises [.tuple ts] = .ret (.bool (asc es)) := by rw [ee]; exact v_rises es
    have e11 : r_is_even [.int n, .tuple ts] = .ret (.bool (even n es)) := by rw [ee]; exact v_is_even es hs (by omega)
    rw [e9]
    simp only [sSeq, OS.bind, O.run, O.bind, sRet, sRetO, sRetN, sSkip, sNever, sExpr, sIf, sAsg, Rf.bindT, Rf.bindN, Rf.bindL, sAsgO, Rf.ownN, sPar, sParO, sVar, sCon, sNil, sCons, sTup, sLst, sFrz, s2, lift, dBin, bCmp, sCmp2, sAnd, sOr, sNot, sIte, sNeg, dIx, sIxv, sSl, sPart, dSl, sItems, dItems, sRng, sZip, sCall, dLen, dMax, dMin, dInt, dAbs, dTuple, sIsi, sCallD_mD, sCallR_mR, heldAt, setL, sItem, sApp, runD, runR, start0, argsR, refAt0, refC, Option.bind, Option.map, List.map_cons, List.map_nil, List.length_cons, List.length_nil, List.replicate, List.cons_append, List.nil_append, List.getElem?_cons_zero, List.getElem?_cons_succ, List.set_cons_zero, List.set_cons_succ, Nat.reduceAdd, Nat.reduceSub, reduceIte, Nat.reduceLeDiff, Nat.add_zero, Nat.zero_add, e4, e5, e10, e11, Bool.not_true]
    cases asc es <;> rfl
theorem v_is_web_so (d : D) (hd : shK 60 d) : r_is_web_so [d] = .ret (.bool (isWebD d)) := by
  cases d with
  | tuple l =>
    match l, hd with
    | [], _ => rfl
    | [h], _ => cases h <;> rfl
    | [u, v], hd =>
      have e1 := v_is_int u 3 8
      have e7 : (!((2 : Int) == 2)) = false := rfl
      have e8 : ((2 : Nat) : Int) = 2 := rfl
      have e3 : isTy "tuple" (.tuple [u, v]) = true := rfl
      have e4 : atI [u, v] 0 = some u := rfl
      have e5 : atI [u, v] 1 = some v := rfl
      have base : isInt u 3 8 = false → r_is_web_so [.tuple [u, v]] = .ret (.bool false) := fun e => by
        unfold r_is_web_so fn_is_web_so
        rw [e] at e1
        simp only [sSeq, OS.bind, O.run, O.bind, sRet, sRetO, sRetN, sSkip, sNever, sExpr, sIf, sAsg, Rf.bindT, Rf.bindN, Rf.bindL, sAsgO, Rf.ownN, sPar, sParO, sVar, sCon, sNil, sCons, sTup, sLst, sFrz, s2, lift, dBin, bCmp, sCmp2, sAnd, sOr, sNot, sIte, sNeg, dIx, sIxv, sSl, sPart, dSl, sItems, dItems, sRng, sZip, sCall, dLen, dMax, dMin, dInt, dAbs, dTuple, sIsi, sCallD_mD, sCallR_mR, heldAt, setL, sItem, sApp, runD, runR, start0, argsR, refAt0, refC, Option.bind, Option.map, List.map_cons, List.map_nil, List.length_cons, List.length_nil, List.replicate, List.cons_append, List.nil_append, List.getElem?_cons_zero, List.getElem?_cons_succ, List.set_cons_zero, List.set_cons_succ, Nat.reduceAdd, Nat.reduceSub, reduceIte, Nat.reduceLeDiff, Nat.add_zero, Nat.zero_add, ne_ii, e1, e7, e8, e3, e4, e5, Bool.not_true, Bool.not_false]
      cases u with
      | int n =>
        cases e : isInt (.int n) 3 8 with
        | false =>
          rw [base e]
          have e' : (decide (3 ≤ n) && decide (n ≤ 8)) = false := e
          cases v with
          | tuple ts =>
            show _ = FD.ret (.bool (decide (3 ≤ n) && decide (n ≤ 8) && (match tiesOf n ts with | some es => asc es && even n es | none => false)))
            rw [e']; rfl
          | _ => rfl
        | true =>
          have hn : 3 ≤ n ∧ n ≤ 8 := by
            unfold isInt at e
            rw [Bool.and_eq_true] at e
            exact ⟨of_decide_eq_true e.1, of_decide_eq_true e.2⟩
          cases v with
          | tuple ts =>
            have hts : ∀ x ∈ ts, shK 60 x := sh_tup_inv (sh_tup_inv hd _ (List.mem_cons_of_mem _ List.mem_cons_self))
            show runD 1 2 (fn_is_web_so r_is_int r_rises r_is_tie r_is_even) _ = _
            rw [web_tail hn hts]
            show _ = FD.ret (.bool (decide (3 ≤ n) && decide (n ≤ 8) && (match tiesOf n ts with | some es => asc es && even n es | none => false)))
            rw [decide_eq_true hn.1, decide_eq_true hn.2]; rfl
          | _ =>
            unfold r_is_web_so fn_is_web_so
            rw [e] at e1
            simp only [sSeq, OS.bind, O.run, O.bind, sRet, sRetO, sRetN, sSkip, sNever, sExpr, sIf, sAsg, Rf.bindT, Rf.bindN, Rf.bindL, sAsgO, Rf.ownN, sPar, sParO, sVar, sCon, sNil, sCons, sTup, sLst, sFrz, s2, lift, dBin, bCmp, sCmp2, sAnd, sOr, sNot, sIte, sNeg, dIx, sIxv, sSl, sPart, dSl, sItems, dItems, sRng, sZip, sCall, dLen, dMax, dMin, dInt, dAbs, dTuple, sIsi, sCallD_mD, sCallR_mR, heldAt, setL, sItem, sApp, runD, runR, start0, argsR, refAt0, refC, Option.bind, Option.map, List.map_cons, List.map_nil, List.length_cons, List.length_nil, List.replicate, List.cons_append, List.nil_append, List.getElem?_cons_zero, List.getElem?_cons_succ, List.set_cons_zero, List.set_cons_succ, Nat.reduceAdd, Nat.reduceSub, reduceIte, Nat.reduceLeDiff, Nat.add_zero, Nat.zero_add, ne_ii, e1, e7, e8, e3, e4, e5, Bool.not_true, Bool.not_false]
            rfl
      | _ => exact base rfl
    | a :: b :: c :: r, _ =>
      have e0 : (!(((r.length + 1 + 1 + 1 : Nat) : Int) == 2)) = true := by
        have : ¬ (((r.length + 1 + 1 + 1 : Nat)) : Int) = 2 := by omega
        rw [beq_eq_false_iff_ne.mpr this]; rfl
      have e3 : isTy "tuple" (.tuple (a :: b :: c :: r)) = true := rfl
      have e9 : isWebD (.tuple (a :: b :: c :: r)) = false := by cases a <;> first | rfl | (cases b <;> rfl)
      rw [e9]
      unfold r_is_web_so fn_is_web_so
      simp only [sSeq, OS.bind, O.run, O.bind, sRet, sRetO, sRetN, sSkip, sNever, sExpr, sIf, sAsg, Rf.bindT, Rf.bindN, Rf.bindL, sAsgO, Rf.ownN, sPar, sParO, sVar, sCon, sNil, sCons, sTup, sLst, sFrz, s2, lift, dBin, bCmp, sCmp2, sAnd, sOr, sNot, sIte, sNeg, dIx, sIxv, sSl, sPart, dSl, sItems, dItems, sRng, sZip, sCall, dLen, dMax, dMin, dInt, dAbs, dTuple, sIsi, sCallD_mD, sCallR_mR, heldAt, setL, sItem, sApp, runD, runR, start0, argsR, refAt0, refC, Option.bind, Option.map, List.map_cons, List.map_nil, List.length_cons, List.length_nil, List.replicate, List.cons_append, List.nil_append, List.getElem?_cons_zero, List.getElem?_cons_succ, List.set_cons_zero, List.set_cons_succ, Nat.reduceAdd, Nat.reduceSub, reduceIte, Nat.reduceLeDiff, Nat.add_zero, Nat.zero_add, ne_ii, e3, e0, Bool.not_true]
  | _ => rfl
end K12

set_option maxRecDepth 100000
set_option maxHeartbeats 4000000
namespace K12
open PySem PySem.Spec PyProof.Rows L2 Rf
/-! ### good grids -/
structure GridOk (n : Int) (es : List (Int × Int)) : Prop where
  lo : 3 ≤ n
  hi : n ≤ 8
  asc : asc es = true
  even : even n es = true
  ends : ∀ t ∈ es, 0 ≤ t.1 ∧ t.1 < t.2 ∧ t.2 < n
theorem GridOk.small {n : Int} {es : List (Int × Int)} (g : GridOk n es) : Small n := ⟨by have := g.lo; omega, by have := g.hi; omega⟩
theorem tiesOf_map {n : Int} : ∀ {es : List (Int × Int)}, (∀ t ∈ es, 0 ≤ t.1 ∧ t.1 < t.2 ∧ t.2 < n) → tiesOf n (es.map tD) = some es
  | [], _ => rfl
  | t :: es, h => by
    have h1 := h t List.mem_cons_self
    rw [List.map_cons]
    unfold tiesOf
    rw [tiesOf_map fun u hu => h u (List.mem_cons_of_mem _ hu)]
    have : tieOf n (tD t) = some t := by
      obtain ⟨a, b⟩ := t
      simp only at h1
      show (if 0 ≤ a ∧ a ≤ n - 1 ∧ a + 1 ≤ b ∧ b ≤ n - 1 then some (a, b) else none) = _
      rw [if_pos (by omega)]
    rw [this]
theorem GridOk.web {n : Int} {es : List (Int × Int)} (g : GridOk n es) : isWebD (gD n es) = true := by
  show (decide (3 ≤ n) && decide (n ≤ 8) && (match tiesOf n (es.map tD) with | some es => K12.asc es && K12.even n es | none => false)) = true
  rw [tiesOf_map g.ends, decide_eq_true g.lo, decide_eq_true g.hi]
  dsimp only
  rw [g.asc, g.even]; rfl
theorem sh_gD (n : Int) (es : List (Int × Int)) : shK 3 (gD n es) := sh_tup fun x hx => by
  rcases List.mem_cons.mp hx with rfl | hx
  · exact sh_int _
  · rw [List.mem_singleton.mp hx]; exact sh_esD es
theorem v_need_web {n : Int} {es : List (Int × Int)} (g : GridOk n es) : r_need_web [gD n es] = .ret .none := by
  have e := v_is_web_so (gD n es) (sh_up (sh_gD n es) (by decide))
  rw [g.web] at e
  unfold r_need_web fn_need_web
  simp only [sSeq, OS.bind, O.run, O.bind, sRet, sRetO, sRetN, sSkip, sNever, sExpr, sIf, sAsg, Rf.bindT, Rf.bindN, Rf.bindL, sAsgO, Rf.ownN, sPar, sParO, sVar, sCon, sNil, sCons, sTup, sLst, sFrz, s2, lift, dBin, bCmp, sCmp2, sAnd, sOr, sNot, sIte, sNeg, dIx, sIxv, sSl, sPart, dSl, sItems, dItems, sRng, sZip, sCall, dLen, dMax, dMin, dInt, dAbs, dTuple, sIsi, sCallD_mD, sCallR_mR, heldAt, setL, sItem, sApp, runD, runR, start0, argsR, refAt0, refC, Option.bind, Option.map, List.map_cons, List.map_nil, List.length_cons, List.length_nil, List.replicate, List.cons_append, List.nil_append, List.getElem?_cons_zero, List.getElem?_cons_succ, List.set_cons_zero, List.set_cons_succ, Nat.reduceAdd, Nat.reduceSub, reduceIte, Nat.reduceLeDiff, Nat.add_zero, Nat.zero_add, e, Bool.not_true]
/-! ### ascending ties -/
theorem ltT_iff {s t : Int × Int} : ltT s t = true ↔ s.1 < t.1 ∨ s.1 = t.1 ∧ s.2 < t.2 := by
  obtain ⟨a, b⟩ := s
  obtain ⟨c, d⟩ := t
  show (if a = c then (if b = d then false else decide (b < d)) else decide (a < c)) = true ↔ a < c ∨ a = c ∧ b < d
  by_cases h1 : a = c
  · rw [if_pos h1]
    by_cases h2 : b = d
    · rw [if_pos h2]
      simp
      omega
    · rw [if_neg h2, decide_eq_true_iff]
      omega
  · rw [if_neg h1, decide_eq_true_iff]
    omega
theorem asc_cons {s t : Int × Int} {es : List (Int × Int)} : asc (s :: t :: es) = (ltT s t && asc (t :: es)) := by unfold asc; simp
theorem asc_pair : ∀ {es : List (Int × Int)}, asc es = true ↔ es.Pairwise fun s t => ltT s t = true
  | [] => by simp [asc]
  | [s] => by simp [asc]
  | s :: t :: es => by
    have ih := asc_pair (es := t :: es)
    rw [asc_cons, Bool.and_eq_true, ih, List.pairwise_cons (a := s)]
    constructor
    · rintro ⟨h1, h2⟩
      refine ⟨fun u hu => ?_, h2⟩
      rcases List.mem_cons.mp hu with rfl | hu
      · exact h1
      · have := (List.pairwise_cons.mp h2).1 u hu
        rw [ltT_iff] at h1 this ⊢
        omega
    · rintro ⟨h1, h2⟩
      exact ⟨h1 t List.mem_cons_self, h2⟩
theorem asc_nodup {es : List (Int × Int)} (h : asc es = true) : es.Nodup := (asc_pair.mp h).imp fun {s t} h e => by
  subst e
  rw [ltT_iff] at h
  omega
theorem nodup_map {α β : Type} {f : α → β} : ∀ {l : List α}, (∀ a ∈ l, ∀ b ∈ l, f a = f b → a = b) → l.Nodup → (l.map f).Nodup
  | [], _, _ => List.Pairwise.nil
  | a :: l, h, hn => by
    obtain ⟨h1, h2⟩ := List.nodup_cons.mp hn
    rw [List.map_cons, List.nodup_cons]
    refine ⟨fun m => ?_, nodup_map (fun x hx y hy => h x (List.mem_cons_of_mem _ hx) y (List.mem_cons_of_mem _ hy)) h2⟩
    obtain ⟨b, hb, e⟩ := List.mem_map.mp m
    have := h a List.mem_cons_self b (List.mem_cons_of_mem _ hb) e.symm
    exact h1 (this ▸ hb)
theorem same_len {α : Type} [DecidableEq α] {l m : List α} (h1 : l.Nodup) (h2 : m.Nodup) (h : ∀ x, x ∈ l ↔ x ∈ m) : l.length = m.length :=
  Nat.le_antisymm (nodup_len l m h1 fun x hx => (h x).mp hx) (nodup_len m l h2 fun x hx => (h x).mpr hx)
def other (p : Int) (t : Int × Int) : Int := if t.1 = p then t.2 else t.1
/-- a place's mates are as many as its ties -/
theorem mts_len {n : Int} {es : List (Int × Int)} (ha : asc es = true) (he : ∀ t ∈ es, 0 ≤ t.1 ∧ t.1 < t.2 ∧ t.2 < n) (p : Int) : (mts n es p).length = deg es p := by
  have e : deg es p = ((es.filter (has p)).map (other p)).length := by rw [List.length_map]; rfl
  rw [e]
  refine same_len ((rng_nodup n).filter _) (nodup_map ?_ ((asc_nodup ha).filter _)) fun x => ?_
  · intro s hs t ht z
    obtain ⟨hs1, hs2⟩ := List.mem_filter.mp hs
    obtain ⟨ht1, ht2⟩ := List.mem_filter.mp ht
    have a1 := he s hs1
    have a2 := he t ht1
    obtain ⟨a, b⟩ := s
    obtain ⟨c, d⟩ := t
    simp only [has, Bool.or_eq_true, beq_iff_eq] at hs2 ht2
    unfold other at z
    simp only at z a1 a2
    have : a = c ∧ b = d := by
      split at z <;> split at z <;> omega
    rw [this.1, this.2]
  · unfold mts
    rw [List.mem_filter, mem_rng, List.mem_map]
    unfold tie
    rw [Bool.or_eq_true, decide_eq_true_iff, decide_eq_true_iff]
    constructor
    · rintro ⟨h1, h2 | h2⟩
      · exact ⟨(p, x), List.mem_filter.mpr ⟨h2, by simp [has]⟩, by simp [other]⟩
      · refine ⟨(x, p), List.mem_filter.mpr ⟨h2, by simp [has]⟩, ?_⟩
        have := he _ h2
        simp only at this
        unfold other
        rw [if_neg (by simp only; omega)]
    · rintro ⟨t, h1, h2⟩
      obtain ⟨h5, h3⟩ := List.mem_filter.mp h1
      have a1 := he t h5
      obtain ⟨a, b⟩ := t
      simp only [has, Bool.or_eq_true, beq_iff_eq] at h3
      unfold other at h2
      simp only at h2 a1
      by_cases e : a = p
      · rw [if_pos e] at h2
        subst h2 e
        exact ⟨by omega, .inl h5⟩
      · rw [if_neg e] at h2
        have e2 : b = p := by rcases h3 with h3 | h3; exact absurd h3 e; exact h3
        subst h2 e2
        exact ⟨by omega, .inr h5⟩
end K12

set_option maxRecDepth 100000
set_option maxHeartbeats 4000000
namespace K12
open PySem PySem.Spec PyProof.Rows L2 Rf
/-! ### what is come to -/
inductive Cl (m : Int → List Int) (p : Int) : Int → Bool → Prop
  | base : Cl m p p false
  | step {v : Int} {r : Bool} {o : Int} : Cl m p v r → o ∈ m v → Cl m p o (!r)
theorem mem_mts {n : Int} {es : List (Int × Int)} {a o : Int} : o ∈ mts n es a ↔ (0 ≤ o ∧ o < n) ∧ tie es a o = true := by
  unfold mts
  rw [List.mem_filter, mem_rng]
theorem tie_symm (es : List (Int × Int)) (a b : Int) : tie es a b = tie es b a := by unfold tie; rw [Bool.or_comm]
theorem mts_symm {n : Int} {es : List (Int × Int)} {a o : Int} (h : o ∈ mts n es a) (ha : 0 ≤ a ∧ a < n) : a ∈ mts n es o := by
  rw [mem_mts] at h ⊢
  exact ⟨ha, by rw [tie_symm]; exact h.2⟩
theorem mts_len8 {n : Int} {es : List (Int × Int)} (hn : n ≤ 8) (a : Int) : (mts n es a).length ≤ 8 := by
  have h1 : (mts n es a).length ≤ (rng n).length := List.length_filter_le _ _
  rw [rng_length] at h1
  omega
def optD (x : Option D) : Option C := x.map C.dat
end K12

set_option maxRecDepth 100000
set_option maxHeartbeats 4000000
namespace K12
open PySem PySem.Spec PyProof.Rows L2 Rf
theorem log2_lt' {n k : Nat} (h : n < 2 ^ k) (hk : 0 < k) : n.log2 < k := by
  by_cases h0 : n = 0
  · subst h0; simpa using hk
  · exact (Nat.log2_lt h0).mpr h
theorem mulOk {i j : Int} (hi : i.natAbs < 2 ^ 1000) (hj : j.natAbs < 2 ^ 1000) : Rf.MulOk i j := by
  have h1 := log2_lt' hi (by decide)
  have h2 := log2_lt' hj (by decide)
  unfold Rf.MulOk
  omega
theorem b_mul {i j : Int} (h : Rf.MulOk i j) : dBin .Mult (.int i) (.int j) = some (.int (i * j)) := if_pos h
theorem b_mod {i j : Int} (h : j ≠ 0) : dBin .Mod (.int i) (.int j) = some (.int (i.fmod j)) := if_pos h
theorem b_div {i j : Int} (h : j ≠ 0 ∧ j.natAbs.log2 < 9000) : dBin .FloorDiv (.int i) (.int j) = some (.int (i.fdiv j)) := if_pos h
theorem b_pow {i j : Int} (h : 0 ≤ j ∧ j ≤ 1000000 ∧ i.natAbs < 2 ^ 64) : dBin .Pow (.int i) (.int j) = some (.int (i ^ j.toNat)) := if_pos h
theorem b_add (i j : Int) : dBin .Add (.int i) (.int j) = some (.int (i + j)) := rfl
theorem b_sub (i j : Int) : dBin .Sub (.int i) (.int j) = some (.int (i - j)) := rfl
theorem fmod_in {i j : Int} (h : 0 < j) : 0 ≤ i.fmod j ∧ i.fmod j < j := ⟨Int.fmod_nonneg_of_pos i h, Int.fmod_lt_of_pos i h⟩
abbrev MM : Int := 2147480197
def PotOk (l : List D) : Prop := ∃ a b : Int, l = [.int a, .int b] ∧ 0 ≤ b ∧ b ≤ MM
theorem lt_ii (i j : Int) : dCmp .Lt (.int i) (.int j) = some (decide (i < j)) := rfl
theorem ge_ii (i j : Int) : dCmp .GtE (.int i) (.int j) = some (decide (j ≤ i)) := rfl
theorem small_mul {i j : Int} (h1 : 0 ≤ i) (h2 : i ≤ 100000000000000) (h3 : 0 ≤ j) (h4 : j ≤ 100000000000000) : Rf.MulOk i j := by
  have h5 : (100000000000000 : Nat) < 2 ^ 1000 := by decide +kernel
  exact mulOk (Nat.lt_of_le_of_lt (by omega) h5) (Nat.lt_of_le_of_lt (by omega) h5)
theorem v_dip {l : List D} {many : Int} (h : PotOk l) (h1 : 1 ≤ many) (h2 : many ≤ 8192) : ∃ (r : Int) (l' : List D), r_dip l [.int many] = .ret (.int r) l' ∧ 0 ≤ r ∧ r < many ∧ PotOk l' := by
  obtain ⟨a, b, rfl, hb0, hb1⟩ := h
  have hm0 : many ≠ 0 := by omega
  have hmd : many ≠ 0 ∧ many.natAbs.log2 < 9000 := ⟨hm0, by
    have := log2_lt' (n := many.natAbs) (k := 20) (by omega) (by decide)
    omega⟩
  have e0 : atI [PyData.int a, .int b] 0 = some (.int a) := rfl
  have e1 : atI [PyData.int a, .int b] 1 = some (.int b) := rfl
  have i0 : ixN 2 0 = some 0 := rfl
  have i1 : ixN 2 1 = some 1 := rfl
  by_cases ha : 0 < a
  · refine ⟨a.fmod many, [.int (a.fdiv many), .int b], ?_, (fmod_in (by omega)).1, (fmod_in (by omega)).2, a.fdiv many, b, rfl, hb0, hb1⟩
    have d0 : decide (0 < a) = true := decide_eq_true ha
    unfold r_dip fn__law_dip
    simp only [sSeq, OS.bind, O.run, O.bind, sRet, sSkip, sIf, sAsg, Rf.bindT, Rf.bindN, sVar, sCon, sNil, sCons, s2, lift, bCmp, dIx, sIxv, sCall, dInt, heldAt, setL, sItem, runR, start0, argsR, refAt0, refC, Option.map, List.map_cons, List.map_nil, List.length_cons, List.length_nil, List.replicate, List.cons_append, List.nil_append, List.getElem?_cons_zero, List.getElem?_cons_succ, List.set_cons_zero, List.set_cons_succ, Nat.reduceAdd, Nat.reduceSub, reduceIte, e0, e1, i0, i1, gt_ii, d0, b_mod hm0, b_div hmd]
  · have d0 : decide (0 < a) = false := decide_eq_false ha
    generalize hb' : (b * 14741 + 137).fmod MM = b'
    have hb2 := fmod_in (i := b * 14741 + 137) (j := MM) (by decide)
    rw [hb'] at hb2
    have m1 : Rf.MulOk b 14741 := small_mul hb0 (by have : MM = 2147480197 := rfl; omega) (by omega) (by omega)
    have m2 : Rf.MulOk 0 8192 := by decide +kernel
    have m3 : Rf.MulOk 1 8192 := by decide +kernel
    have hd : (76003 : Int) ≠ 0 ∧ (76003 : Int).natAbs.log2 < 9000 := ⟨by decide, by decide +kernel⟩
    refine ⟨((0 * 8192 + (b'.fdiv 76003).fmod 8192)).fmod many, [.int a, .int b'], ?_, (fmod_in (by omega)).1, (fmod_in (by omega)).2, a, b', rfl, hb2.1, by omega⟩
    have e0' : ∀ c : D, atI [PyData.int a, c] 0 = some (.int a) := fun c => rfl
    have e1' : atI [PyData.int a, .int b'] 1 = some (.int b') := rfl
    have w1 : decide ((1 * 8192 : Int) < many) = false := decide_eq_false (by omega)
    have w2 : ((1 * 8192 : Int) == 1) = false := by decide
    have w3 : ((1 : Int) == 1) = true := rfl
    have w4 : decide ((1 : Int) < many) = true ∨ decide ((1 : Int) < many) = false := by cases decide ((1 : Int) < many) <;> simp
    have nz : (8192 : Int) ≠ 0 := by decide
    have nM : (2147480197 : Int) ≠ 0 := by decide
    unfold r_dip fn__law_dip sWhile
    rcases w4 with w4 | w4
    · simp only [sSeq, OS.bind, O.run, O.bind, sRet, sSkip, sIf, sAsg, Rf.bindT, Rf.bindL, Rf.bindN, sTup, sOr, whileGo, sVar, sCon, sNil, sCons, s2, lift, bCmp, dIx, sIxv, sCall, dInt, heldAt, setL, sItem, runR, start0, argsR, refAt0, refC, Option.map, Option.bind, List.map_cons, List.map_nil, List.length_cons, List.length_nil, List.replicate, List.cons_append, List.nil_append, List.getElem?_cons_zero, List.getElem?_cons_succ, List.set_cons_zero, List.set_cons_succ, Nat.reduceAdd, Nat.reduceSub, Nat.reduceLeDiff, reduceIte, e0, e1, e1', i0, i1, gt_ii, lt_ii, eq_ii, d0, w4, b_mul m1, b_mul m2, b_mul m3, b_add, b_mod nM, b_mod nz, b_mod hm0, b_div hd, hb', w1, w2]
    · simp only [sSeq, OS.bind, O.run, O.bind, sRet, sSkip, sIf, sAsg, Rf.bindT, Rf.bindL, Rf.bindN, sTup, sOr, whileGo, sVar, sCon, sNil, sCons, s2, lift, bCmp, dIx, sIxv, sCall, dInt, heldAt, setL, sItem, runR, start0, argsR, refAt0, refC, Option.map, Option.bind, List.map_cons, List.map_nil, List.length_cons, List.length_nil, List.replicate, List.cons_append, List.nil_append, List.getElem?_cons_zero, List.getElem?_cons_succ, List.set_cons_zero, List.set_cons_succ, Nat.reduceAdd, Nat.reduceSub, Nat.reduceLeDiff, reduceIte, e0, e1, e1', i0, i1, gt_ii, lt_ii, eq_ii, d0, w4, w3, b_mul m1, b_mul m2, b_mul m3, b_add, b_mod nM, b_mod nz, b_mod hm0, b_div hd, hb', w1, w2]
end K12

set_option maxRecDepth 100000
set_option maxHeartbeats 4000000
namespace K12
open PySem PySem.Spec PyProof.Rows L2 Rf
theorem callR_eq {f : List D → List D → FL} {i : Nat} {fa : Rho → O (List D)} {ρ ρ1 : Rho} {ds : List D} {l0 l l' : List D} {d : D} (h0 : heldAt ρ i = some l0) (h1 : fa ρ = .ok ds ρ1) (h2 : heldAt ρ1 i = some l) (h3 : f l ds = .ret d l') : sCallR (mR f) i fa ρ = .ok d (setL ρ1 i l') := by
  rw [sCallR_mR, h0]
  dsimp only
  rw [h1]
  show (match heldAt ρ1 i with | none => O.no | some l => match f l ds with | .ret d l' => .ok d (setL ρ1 i l') | .exc e l' => .ex e (setL ρ1 i l') | .no => .no) = _
  rw [h2]
  dsimp only
  rw [h3]
theorem v_any {l xs : List D} (h : PotOk l) (h1 : 1 ≤ xs.length) (h2 : xs.length ≤ 8192) : ∃ (d : D) (l' : List D), r_any l [.list xs] = .ret d l' ∧ d ∈ xs ∧ PotOk l' := by
  obtain ⟨r, l', e, r0, r1, hp⟩ := v_dip h (many := (xs.length : Int)) (by omega) (by omega)
  have hr : r.toNat < xs.length := by omega
  refine ⟨xs[r.toNat], l', ?_, List.getElem_mem hr, hp⟩
  have ea : atI xs r = some xs[r.toNat] := by
    have := atI_nat (xs := xs) (j := r.toNat) (v := xs[r.toNat]) (List.getElem?_eq_getElem hr)
    rw [show ((r.toNat : Nat) : Int) = r by omega] at this
    exact this
  have ec := callR_eq (f := r_dip) (i := 0) (fa := sCons (sCall dLen (sCons (sVar 1) sNil)) sNil) (ρ := [some (.ref l), some (.dat (.list xs))]) rfl rfl rfl e
  unfold r_any fn__law_any
  simp only [sSeq, OS.bind, O.run, O.bind, sRet, sSkip, s2, lift, dIx, runR, start0, argsR, refAt0, refC, List.map_cons, List.map_nil, List.length_cons, List.length_nil, List.replicate, List.cons_append, List.nil_append, Nat.reduceAdd, Nat.reduceSub, reduceIte]
  have ev : sVar 1 [some (.ref l), some (.dat (.list xs))] = .ok (.list xs) [some (.ref l), some (.dat (.list xs))] := rfl
  rw [ev]
  dsimp only
  rw [ec]
  dsimp only
  rw [ea]
  rfl
def potA : Rho → OS := (sAsg (.nm 2) (s2 (dBin .Add) (s2 (dBin .Mult) (sCon (.int 21013)) (sVar 1)) (sCon (.int 37))))
def potI : Rho → OS := (sIf (s2 (bCmp .Lt) (sVar 1) (sCall dLen (sCons (sVar 0) sNil))) (sSeq (sAsg (.nm 2) (s2 (dBin .Mod) (sCall dAbs (sCons (sCall dInt (sCons (s2 dIx (sVar 0) (sVar 1)) sNil)) sNil)) (s2 (dBin .Mult) (s2 (dBin .Mult) (s2 (dBin .Mult) (s2 (dBin .Pow) (sCon (.int 10)) (sCon (.int 60))) (s2 (dBin .Pow) (sCon (.int 10)) (sCon (.int 60)))) (s2 (dBin .Pow) (sCon (.int 10)) (sCon (.int 60)))) (s2 (dBin .Pow) (sCon (.int 10)) (sCon (.int 60)))))) sSkip) (sSeq (sIf (s2 (bCmp .Gt) (sCall dLen (sCons (sVar 0) sNil)) (sCon (.int 0))) (sSeq (sAsg (.nm 2) (s2 (dBin .Add) (sVar 2) (s2 (dBin .Mod) (sCall dAbs (sCons (sCall dInt (sCons (s2 dIx (sVar 0) (sCon (.int 0))) sNil)) sNil)) (sCon (.int 1000171))))) sSkip) sSkip) sSkip))
def potT : Rho → OS := (sSeq (sRetO (sLst (sCons (sIte (s2 (bCmp .GtE) (sVar 2) (s2 (dBin .Pow) (sCon (.int 10)) (sCon (.int 18)))) (sVar 2) (sCon (.int 0))) (sCons (s2 (dBin .Add) (s2 (dBin .Mod) (sCall dInt (sCons (s2 (dBin .Add) (s2 (dBin .Add) (s2 (dBin .Mult) (s2 (dBin .Mod) (sVar 2) (sCon (.int 2147480197))) (sCon (.int 47))) (s2 (dBin .Mult) (sCon (.int 113)) (sVar 1))) (sCon (.int 79))) sNil)) (sCon (.int 2147480197))) (sCon (.int 1))) sNil)))) sSkip)
theorem v_pot_of {ns : List Int} {k : Int} (hl : ns.length ≤ 63) (h0 : 0 ≤ k) (h1 : k ≤ 63) : ∃ l : List D, r_pot_of [.list (ns.map .int), .int k] = .retO l ∧ PotOk l := by
  have p18 : dBin .Pow (.int 10) (.int 18) = some (.int (10 ^ (18 : Int).toNat)) := b_pow ⟨by decide, by decide, by decide⟩
  have p60 : dBin .Pow (.int 10) (.int 60) = some (.int (10 ^ (60 : Int).toNat)) := b_pow ⟨by decide, by decide, by decide⟩
  have hM : (2147480197 : Int) ≠ 0 := by decide
  -- the end
  have fin : ∀ c : Int, ∃ l : List D, potT [some (.dat (.list (ns.map .int))), some (.dat (.int k)), some (.dat (.int c))] = .retO l [some (.dat (.list (ns.map .int))), some (.dat (.int k)), some (.dat (.int c))] ∧ PotOk l := fun c => by
    have hc := fmod_in (i := c) (j := 2147480197) (by decide)
    have m1 : Rf.MulOk (c.fmod 2147480197) 47 := small_mul hc.1 (by omega) (by omega) (by omega)
    have m2 : Rf.MulOk 113 k := small_mul (by omega) (by omega) h0 (by omega)
    generalize hb : (c.fmod 2147480197 * 47 + 113 * k + 79).fmod 2147480197 = b
    have hb2 := fmod_in (i := c.fmod 2147480197 * 47 + 113 * k + 79) (j := 2147480197) (by decide)
    rw [hb] at hb2
    refine ⟨[.int (if (10 : Int) ^ (18 : Int).toNat ≤ c then c else 0), .int (b + 1)], ?_, _, b + 1, rfl, by omega, by show b + 1 ≤ 2147480197; omega⟩
    by_cases hq : (10 : Int) ^ (18 : Int).toNat ≤ c
    · have d1 : decide ((10 : Int) ^ (18 : Int).toNat ≤ c) = true := decide_eq_true hq
      rw [if_pos hq]
      simp only [potT, sSeq, OS.bind, O.run, O.bind, sRetO, sLst, sIte, sVar, sCon, sNil, sCons, s2, lift, bCmp, sCall, dInt, Option.map, List.getElem?_cons_zero, List.getElem?_cons_succ, p18, ge_ii, d1, b_mod hM, b_mul m1, b_mul m2, b_add, hb, List.length_cons, List.length_nil, Nat.reduceAdd, Nat.reduceLeDiff, reduceIte]
    · have d1 : decide ((10 : Int) ^ (18 : Int).toNat ≤ c) = false := decide_eq_false hq
      rw [if_neg hq]
      simp only [potT, sSeq, OS.bind, O.run, O.bind, sRetO, sLst, sIte, sVar, sCon, sNil, sCons, s2, lift, bCmp, sCall, dInt, Option.map, List.getElem?_cons_zero, List.getElem?_cons_succ, p18, ge_ii, d1, b_mod hM, b_mul m1, b_mul m2, b_add, hb, List.length_cons, List.length_nil, Nat.reduceAdd, Nat.reduceLeDiff, reduceIte]
  have m0 : Rf.MulOk 21013 k := small_mul (by omega) (by omega) h0 (by omega)
  have q1 : Rf.MulOk (10 ^ (60 : Int).toNat) (10 ^ (60 : Int).toNat) := by decide +kernel
  have q2 : Rf.MulOk (10 ^ (60 : Int).toNat * 10 ^ (60 : Int).toNat) (10 ^ (60 : Int).toNat) := by decide +kernel
  have q3 : Rf.MulOk (10 ^ (60 : Int).toNat * 10 ^ (60 : Int).toNat * 10 ^ (60 : Int).toNat) (10 ^ (60 : Int).toNat) := by decide +kernel
  have q4 : ((10 : Int) ^ (60 : Int).toNat * 10 ^ (60 : Int).toNat * 10 ^ (60 : Int).toNat * 10 ^ (60 : Int).toNat) ≠ 0 := by decide +kernel
  have q5 : (1000171 : Int) ≠ 0 := by decide
  have eA : potA [some (.dat (.list (ns.map .int))), some (.dat (.int k)), none] = .nx [some (.dat (.list (ns.map .int))), some (.dat (.int k)), some (.dat (.int (21013 * k + 37)))] := by
    unfold potA
    simp only [O.bind, O.run, sAsg, Rf.bindT, Rf.bindN, sVar, sCon, s2, lift, List.getElem?_cons_zero, List.getElem?_cons_succ, List.set_cons_zero, List.set_cons_succ, b_mul m0, b_add]
  have eI : ∃ c : Int, potI [some (.dat (.list (ns.map .int))), some (.dat (.int k)), some (.dat (.int (21013 * k + 37)))] = .nx [some (.dat (.list (ns.map .int))), some (.dat (.int k)), some (.dat (.int c))] := by
    unfold potI
    by_cases hk : k < (ns.length : Int)
    · have d1 : decide (k < (((ns.map PyData.int).length : Nat) : Int)) = true := by rw [List.length_map]; exact decide_eq_true hk
      have hkn : k.toNat < ns.length := by omega
      have ea : atI (ns.map PyData.int) k = some (.int ns[k.toNat]) := by
        have := atI_nat (xs := ns.map PyData.int) (j := k.toNat) (v := .int ns[k.toNat]) (by rw [List.getElem?_map, List.getElem?_eq_getElem hkn]; rfl)
        rw [show ((k.toNat : Nat) : Int) = k by omega] at this
        exact this
      simp only [sSeq, OS.bind, O.run, O.bind, sIf, sAsg, sSkip, Rf.bindT, Rf.bindN, sVar, sCon, sNil, sCons, s2, lift, bCmp, dIx, sCall, dInt, dAbs, dLen, Option.map, List.getElem?_cons_zero, List.getElem?_cons_succ, List.set_cons_zero, List.set_cons_succ, lt_ii, d1, ea, p60, b_mul q1, b_mul q2, b_mul q3, b_mod q4]
      exact ⟨_, rfl⟩
    · have d1 : decide (k < (((ns.map PyData.int).length : Nat) : Int)) = false := by rw [List.length_map]; exact decide_eq_false hk
      by_cases hz : 0 < ns.length
      · have d2 : decide ((0 : Int) < (((ns.map PyData.int).length : Nat) : Int)) = true := by rw [List.length_map]; exact decide_eq_true (by omega)
        have ea : atI (ns.map PyData.int) 0 = some (.int ns[0]) := atI_nat (xs := ns.map PyData.int) (j := 0) (v := .int ns[0]) (by rw [List.getElem?_map, List.getElem?_eq_getElem hz]; rfl)
        simp only [sSeq, OS.bind, O.run, O.bind, sIf, sAsg, sSkip, Rf.bindT, Rf.bindN, sVar, sCon, sNil, sCons, s2, lift, bCmp, dIx, sCall, dInt, dAbs, dLen, Option.map, List.getElem?_cons_zero, List.getElem?_cons_succ, List.set_cons_zero, List.set_cons_succ, lt_ii, gt_ii, d1, d2, ea, b_mod q5, b_add]
        exact ⟨_, rfl⟩
      · have d2 : decide ((0 : Int) < (((ns.map PyData.int).length : Nat) : Int)) = false := by rw [List.length_map]; exact decide_eq_false (by omega)
        simp only [sSeq, OS.bind, O.run, O.bind, sIf, sAsg, sSkip, Rf.bindT, Rf.bindN, sVar, sCon, sNil, sCons, s2, lift, bCmp, dIx, sCall, dInt, dAbs, dLen, Option.map, List.getElem?_cons_zero, List.getElem?_cons_succ, List.set_cons_zero, List.set_cons_succ, lt_ii, gt_ii, d1, d2]
        exact ⟨_, rfl⟩
  obtain ⟨c, eI⟩ := eI
  obtain ⟨l, eT, hp⟩ := fin c
  refine ⟨l, ?_, hp⟩
  show (match OS.bind (potA [some (.dat (.list (ns.map .int))), some (.dat (.int k)), none]) (sSeq potI potT) with | .nx _ => FD.ret .none | .ret d _ => .ret d | .retO l _ => .retO l | .retK l _ => .retK l | .retV k l _ => .retV k l | .ex e _ => .exc e | .no => .no) = _
  rw [eA]
  show (match OS.bind (potI [some (.dat (.list (ns.map .int))), some (.dat (.int k)), some (.dat (.int (21013 * k + 37)))]) potT with | .nx _ => FD.ret .none | .ret d _ => .ret d | .retO l _ => .retO l | .retK l _ => .retK l | .retV k l _ => .retV k l | .ex e _ => .exc e | .no => .no) = _
  rw [eI]
  show (match potT [some (.dat (.list (ns.map .int))), some (.dat (.int k)), some (.dat (.int c))] with | .nx _ => FD.ret .none | .ret d _ => .ret d | .retO l _ => .retO l | .retK l _ => .retK l | .retV k l _ => .retV k l | .ex e _ => .exc e | .no => .no) = _
  rw [eT]
end K12

set_option maxRecDepth 100000
set_option maxHeartbeats 4000000
namespace K12
open PySem PySem.Spec PyProof.Rows L2 Rf
theorem tie_in {n : Int} {x : D} {t : Int × Int} (h : tieOf n x = some t) : x = tD t ∧ 0 ≤ t.1 ∧ t.1 < t.2 ∧ t.2 < n := by
  refine ⟨tieOf_eq h, ?_⟩
  unfold tieOf at h
  split at h
  · split at h
    · cases h; simp only; omega
    · cases h
  · cases h
theorem tiesOf_in {n : Int} : ∀ {ts : List D} {es : List (Int × Int)}, tiesOf n ts = some es → ∀ t ∈ es, 0 ≤ t.1 ∧ t.1 < t.2 ∧ t.2 < n
  | [], es, h, t, ht => by cases h; cases ht
  | x :: xs, es, h, t, ht => by
    unfold tiesOf at h
    split at h
    · rename_i u us h1 h2
      cases h
      rcases List.mem_cons.mp ht with rfl | ht
      · exact (tie_in h1).2
      · exact tiesOf_in h2 t ht
    · cases h
theorem web_grid {n : Int} {ts : List D} (h : isWebD (.tuple [.int n, .tuple ts]) = true) : ∃ es, ts = es.map tD ∧ GridOk n es := by
  have h' : (decide (3 ≤ n) && decide (n ≤ 8) && (match tiesOf n ts with | some es => asc es && even n es | none => false)) = true := h
  cases et : tiesOf n ts with
  | none => rw [et] at h'; simp at h'
  | some es =>
    rw [et] at h'
    simp only [Bool.and_eq_true, decide_eq_true_eq] at h'
    exact ⟨es, tiesOf_eq et, h'.1.1, h'.1.2, h'.2.1, h'.2.2, tiesOf_in et⟩
def subs : List Int → List (List Int)
  | [] => [[]]
  | a :: l => subs l ++ (subs l).map (a :: ·)
theorem subs_nil : ∀ l, [] ∈ subs l
  | [] => List.mem_singleton.mpr rfl
  | _ :: l => List.mem_append_left _ (subs_nil l)
def isWebR (m : Int) : FD → Bool
  | .ret (.tuple [.int n, .tuple ts]) => decide (n = m) && isWebD (.tuple [.int n, .tuple ts])
  | _ => false
def halves : List (Int × List Int) := [(3, [1]), (4, [1, 2]), (5, [1, 2]), (6, [1, 2, 3]), (7, [1, 2, 3]), (8, [1, 2, 3, 4])]
theorem rounds : (halves.all fun h => (subs h.2).all fun P => P.isEmpty || isWebR h.1 (r_round [.int h.1, .list (P.map .int)])) = true := by decide +kernel
theorem v_round {m : Int} {H P : List Int} (hm : (m, H) ∈ halves) (hP : P ∈ subs H) (hne : P ≠ []) : ∃ es, r_round [.int m, .list (P.map .int)] = .ret (gD m es) ∧ GridOk m es := by
  have h1 := List.all_eq_true.mp rounds _ hm
  have h2 := List.all_eq_true.mp h1 _ hP
  rw [Bool.or_eq_true] at h2
  rcases h2 with h2 | h2
  · exact absurd (List.isEmpty_iff.mp h2) hne
  · dsimp only at h2
    unfold isWebR at h2
    split at h2
    · rename_i n ts e
      rw [Bool.and_eq_true] at h2
      have en := of_decide_eq_true h2.1
      subst en
      obtain ⟨es, rfl, g⟩ := web_grid h2.2
      exact ⟨es, e, g⟩
    · cases h2
end K12

set_option maxRecDepth 100000
set_option maxHeartbeats 4000000
namespace K12
open PySem PySem.Spec PyProof.Rows L2 Rf
theorem for_lt {t : Tg} {f : Rho → OS} (P : Nat → Rho → Prop) : ∀ {xs : List D} {n N : Nat} {ρ : Rho}, n + xs.length ≤ N → P n ρ → (∀ x ∈ xs, ∀ m ρ, m < N → P m ρ → ∃ ρ1 ρ2, Rf.bindT t x ρ = some ρ1 ∧ f ρ1 = .nx ρ2 ∧ P (m + 1) ρ2) → ∃ ρ', forGo t f xs ρ = .nx ρ' ∧ P (n + xs.length) ρ'
  | [], n, N, ρ, _, h, _ => ⟨ρ, rfl, h⟩
  | x :: xs, n, N, ρ, hN, h, k => by
    rw [List.length_cons] at hN
    obtain ⟨ρ1, ρ2, h1, h2, h3⟩ := k x List.mem_cons_self n ρ (by omega) h
    obtain ⟨ρ', h4, h5⟩ := for_lt P (N := N) (by omega) h3 fun y hy => k y (List.mem_cons_of_mem _ hy)
    refine ⟨ρ', ?_, by rw [List.length_cons, show n + (xs.length + 1) = n + 1 + xs.length by omega]; exact h5⟩
    unfold forGo
    rw [h1]
    dsimp only
    rw [h2]
    exact h4
structure FourOk (es : List (Int × Int)) (a b e f : Int) : Prop where
  ab : tie es a b = true
  ef : tie es e f = true
  n1 : a ≠ b
  n2 : a ≠ e
  n3 : a ≠ f
  n4 : b ≠ e
  n5 : b ≠ f
  n6 : e ≠ f
  ae : tie es a e = false
  bf : tie es b f = false
def qD (a b e f : Int) : D := .tuple [.int a, .int b, .int e, .int f]
def Four (es : List (Int × Int)) (d : D) : Prop := ∃ a b e f, d = qD a b e f ∧ FourOk es a b e f
theorem four_nd {a b e f : Int} {J : List Int} (hJ : J.Nodup) (hm : ∀ k, k ∈ J ↔ k ∈ [a, b, e, f]) (h4 : J.length = 4) : a ≠ b ∧ a ≠ e ∧ a ≠ f ∧ b ≠ e ∧ b ≠ f ∧ e ≠ f := by
  have key : ∀ x y z : Int, (∀ k, k ∈ [a, b, e, f] → k ∈ [x, y, z]) → False := fun x y z h => by
    have := nodup_len J [x, y, z] hJ fun k hk => h k ((hm k).mp hk)
    rw [h4] at this
    simp at this
  refine ⟨fun q => key b e f ?_, fun q => key b e f ?_, fun q => key b e f ?_, fun q => key a e f ?_, fun q => key a e f ?_, fun q => key a b f ?_⟩ <;>
    (intro k hk; simp only [List.mem_cons, List.not_mem_nil, or_false] at hk ⊢; omega)
def F4 : Rho → OS := (sSeq (sAsg (.nm 10) (sAnd (sNot (sCallD (mD r_law_are_tied) (sCons (sVar 0) (sCons (sVar 4) (sCons (sVar 8) sNil))))) (sNot (sCallD (mD r_law_are_tied) (sCons (sVar 0) (sCons (sVar 5) (sCons (sVar 9) sNil))))))) (sSeq (sIf (sAnd (sVar 10) (s2 (bCmp .Eq) (sSetN (sCons (sFrz (sLst (sCons (sVar 4) (sCons (sVar 5) (sCons (sVar 8) (sCons (sVar 9) sNil)))))) sNil)) (sCon (.int 4)))) (sSeq (sApp 1 (sTup (sCons (sVar 4) (sCons (sVar 5) (sCons (sVar 8) (sCons (sVar 9) sNil)))))) sSkip) sSkip) sSkip))
def F3 : Rho → OS := sSeq (sFor (.tp [8, 9]) (sItems (sTup (sCons (sTup (sCons (sVar 6) (sCons (sVar 7) sNil))) (sCons (sTup (sCons (sVar 7) (sCons (sVar 6) sNil))) sNil)))) F4) sSkip
def F2 : Rho → OS := sSeq (sFor (.tp [6, 7]) (sItems (s2 dIx (sVar 0) (sCon (.int 1)))) F3) sSkip
def F1 : Rho → OS := sSeq (sFor (.tp [4, 5]) (sItems (sTup (sCons (sTup (sCons (sVar 2) (sCons (sVar 3) sNil))) (sCons (sTup (sCons (sVar 3) (sCons (sVar 2) sNil))) sNil)))) F2) sSkip
def fR (n : Int) (es : List (Int × Int)) (l : List D) (x2 x3 x4 x5 x6 x7 x8 x9 x10 : Option D) : Rho := [some (.dat (gD n es)), some (.own l), optD x2, optD x3, optD x4, optD x5, optD x6, optD x7, optD x8, optD x9, optD x10]
theorem f4_val {n : Int} {es : List (Int × Int)} {l : List D} {a b e f : Int} {x2 x3 x6 x7 x10 : Option D} (hl : l.length < 16777216) (hab : tie es a b = true) (hef : tie es e f = true) :
    ∃ l' y10, F4 (fR n es l x2 x3 (some (.int a)) (some (.int b)) x6 x7 (some (.int e)) (some (.int f)) x10) = .nx (fR n es l' x2 x3 (some (.int a)) (some (.int b)) x6 x7 (some (.int e)) (some (.int f)) y10) ∧ (l' = l ∨ l' = l ++ [qD a b e f] ∧ FourOk es a b e f) := by
  obtain ⟨J, e1, h1, h2⟩ := set_intsL [a, b, e, f]
  have es1 : dSetN [.list [.int a, .int b, .int e, .int f]] = some (.int J.length) := by
    show (if (intsOf ([a, b, e, f].map PyData.int)).isSome = true ∧ ([a, b, e, f].map PyData.int).length < 4000 then some (PyData.int (setD ([a, b, e, f].map PyData.int)).length) else none) = _
    rw [if_pos ⟨by rw [intsOf_map]; rfl, by simp⟩, e1, List.length_map]
  have t1 := v_law_are_tied n es a e
  have t2 := v_law_are_tied n es b f
  cases q1 : tie es a e with
  | true =>
    refine ⟨l, some (.bool false), ?_, .inl rfl⟩
    rw [q1] at t1
    unfold F4 sSetN fR optD
    cases x10 <;> simp only [sSeq, OS.bind, O.run, O.bind, sRet, sRetO, sRetN, sSkip, sNever, sExpr, sIf, sAsg, Rf.bindT, Rf.bindN, Rf.bindL, sAsgO, Rf.ownN, sPar, sParO, sVar, sCon, sNil, sCons, sTup, sLst, sFrz, s2, lift, dBin, bCmp, sCmp2, sAnd, sOr, sNot, sIte, sNeg, dIx, sIxv, sSl, sPart, dSl, sItems, dItems, sRng, sZip, sCall, dLen, dMax, dMin, dInt, dAbs, dTuple, sIsi, sCallD_mD, sCallR_mR, heldAt, setL, sItem, sApp, runD, runR, start0, argsR, refAt0, refC, Option.bind, Option.map, List.map_cons, List.map_nil, List.length_cons, List.length_nil, List.replicate, List.cons_append, List.nil_append, List.getElem?_cons_zero, List.getElem?_cons_succ, List.set_cons_zero, List.set_cons_succ, Nat.reduceAdd, Nat.reduceSub, reduceIte, Nat.reduceLeDiff, Nat.add_zero, Nat.zero_add, es1, eq_ii, t1, Bool.not_true]
  | false =>
    cases q2 : tie es b f with
    | true =>
      refine ⟨l, some (.bool false), ?_, .inl rfl⟩
      rw [q1] at t1
      rw [q2] at t2
      unfold F4 sSetN fR optD
      cases x10 <;> simp only [sSeq, OS.bind, O.run, O.bind, sRet, sRetO, sRetN, sSkip, sNever, sExpr, sIf, sAsg, Rf.bindT, Rf.bindN, Rf.bindL, sAsgO, Rf.ownN, sPar, sParO, sVar, sCon, sNil, sCons, sTup, sLst, sFrz, s2, lift, dBin, bCmp, sCmp2, sAnd, sOr, sNot, sIte, sNeg, dIx, sIxv, sSl, sPart, dSl, sItems, dItems, sRng, sZip, sCall, dLen, dMax, dMin, dInt, dAbs, dTuple, sIsi, sCallD_mD, sCallR_mR, heldAt, setL, sItem, sApp, runD, runR, start0, argsR, refAt0, refC, Option.bind, Option.map, List.map_cons, List.map_nil, List.length_cons, List.length_nil, List.replicate, List.cons_append, List.nil_append, List.getElem?_cons_zero, List.getElem?_cons_succ, List.set_cons_zero, List.set_cons_succ, Nat.reduceAdd, Nat.reduceSub, reduceIte, Nat.reduceLeDiff, Nat.add_zero, Nat.zero_add, es1, eq_ii, t1, t2, Bool.not_true, Bool.not_false]
    | false =>
      rw [q1] at t1
      rw [q2] at t2
      by_cases hJ : (J.length : Int) = 4
      · have b1 : ((J.length : Int) == 4) = true := by simpa using hJ
        have nd := four_nd h1 h2 (by omega)
        refine ⟨l ++ [qD a b e f], some (.bool true), ?_, .inr ⟨rfl, hab, hef, nd.1, nd.2.1, nd.2.2.1, nd.2.2.2.1, nd.2.2.2.2.1, nd.2.2.2.2.2, q1, q2⟩⟩
        unfold F4 sSetN fR optD qD
        cases x10 <;> simp only [sSeq, OS.bind, O.run, O.bind, sRet, sRetO, sRetN, sSkip, sNever, sExpr, sIf, sAsg, Rf.bindT, Rf.bindN, Rf.bindL, sAsgO, Rf.ownN, sPar, sParO, sVar, sCon, sNil, sCons, sTup, sLst, sFrz, s2, lift, dBin, bCmp, sCmp2, sAnd, sOr, sNot, sIte, sNeg, dIx, sIxv, sSl, sPart, dSl, sItems, dItems, sRng, sZip, sCall, dLen, dMax, dMin, dInt, dAbs, dTuple, sIsi, sCallD_mD, sCallR_mR, heldAt, setL, sItem, sApp, runD, runR, start0, argsR, refAt0, refC, Option.bind, Option.map, List.map_cons, List.map_nil, List.length_cons, List.length_nil, List.replicate, List.cons_append, List.nil_append, List.getElem?_cons_zero, List.getElem?_cons_succ, List.set_cons_zero, List.set_cons_succ, Nat.reduceAdd, Nat.reduceSub, reduceIte, Nat.reduceLeDiff, Nat.add_zero, Nat.zero_add, es1, eq_ii, b1, t1, t2, Bool.not_true, Bool.not_false, if_pos hl]
      · have b1 : ((J.length : Int) == 4) = false := by simpa using hJ
        refine ⟨l, some (.bool true), ?_, .inl rfl⟩
        unfold F4 sSetN fR optD
        cases x10 <;> simp only [sSeq, OS.bind, O.run, O.bind, sRet, sRetO, sRetN, sSkip, sNever, sExpr, sIf, sAsg, Rf.bindT, Rf.bindN, Rf.bindL, sAsgO, Rf.ownN, sPar, sParO, sVar, sCon, sNil, sCons, sTup, sLst, sFrz, s2, lift, dBin, bCmp, sCmp2, sAnd, sOr, sNot, sIte, sNeg, dIx, sIxv, sSl, sPart, dSl, sItems, dItems, sRng, sZip, sCall, dLen, dMax, dMin, dInt, dAbs, dTuple, sIsi, sCallD_mD, sCallR_mR, heldAt, setL, sItem, sApp, runD, runR, start0, argsR, refAt0, refC, Option.bind, Option.map, List.map_cons, List.map_nil, List.length_cons, List.length_nil, List.replicate, List.cons_append, List.nil_append, List.getElem?_cons_zero, List.getElem?_cons_succ, List.set_cons_zero, List.set_cons_succ, Nat.reduceAdd, Nat.reduceSub, reduceIte, Nat.reduceLeDiff, Nat.add_zero, Nat.zero_add, es1, eq_ii, b1, t1, t2, Bool.not_true, Bool.not_false]
/-- all good, and not too many -/
def Gd (es : List (Int × Int)) (c : Nat) (l : List D) : Prop := (∀ d ∈ l, Four es d) ∧ l.length ≤ c
theorem gd_step {es : List (Int × Int)} {c : Nat} {l l' : List D} {a b e f : Int} (h : Gd es c l) (k : l' = l ∨ l' = l ++ [qD a b e f] ∧ FourOk es a b e f) : Gd es (c + 1) l' := by
  rcases k with k | ⟨k, q⟩
  · rw [k]; exact ⟨h.1, by have := h.2; omega⟩
  · rw [k]
    refine ⟨fun d hd => ?_, by rw [List.length_append]; have := h.2; simp only [List.length_cons, List.length_nil]; omega⟩
    rcases List.mem_append.mp hd with hd | hd
    · exact h.1 d hd
    · exact ⟨a, b, e, f, List.mem_singleton.mp hd, q⟩
theorem two_turns {t : Tg} {f : Rho → OS} {x y : D} {ρ ρ1 ρ2 ρ3 ρ4 : Rho} (h1 : Rf.bindT t x ρ = some ρ1) (h2 : f ρ1 = .nx ρ2) (h3 : Rf.bindT t y ρ2 = some ρ3) (h4 : f ρ3 = .nx ρ4) : forGo t f [x, y] ρ = .nx ρ4 := by
  simp only [forGo, h1, h2, h3, h4, OS.bind]
theorem f3_val {n : Int} {es : List (Int × Int)} {c : Nat} {l : List D} {a b g h : Int} {x2 x3 x8 x9 x10 : Option D} (hc : c ≤ 100000) (hl : Gd es c l) (hab : tie es a b = true) (hgh : tie es g h = true) :
    ∃ l' y8 y9 y10, F3 (fR n es l x2 x3 (some (.int a)) (some (.int b)) (some (.int g)) (some (.int h)) x8 x9 x10) = .nx (fR n es l' x2 x3 (some (.int a)) (some (.int b)) (some (.int g)) (some (.int h)) y8 y9 y10) ∧ Gd es (c + 2) l' := by
  obtain ⟨l1, z1, e1, h1⟩ := f4_val (x10 := x10) (n := n) (l := l) (a := a) (b := b) (e := g) (f := h) (x2 := x2) (x3 := x3) (x6 := some (.int g)) (x7 := some (.int h)) (by have := hl.2; omega) hab hgh
  have g1 : Gd es (c + 1) l1 := gd_step hl h1
  obtain ⟨l2, z2, e2, h2⟩ := f4_val (x10 := z1) (n := n) (l := l1) (a := a) (b := b) (e := h) (f := g) (x2 := x2) (x3 := x3) (x6 := some (.int g)) (x7 := some (.int h)) (by have := g1.2; omega) hab (by rw [tie_symm]; exact hgh)
  have g2 : Gd es (c + 2) l2 := gd_step g1 h2
  refine ⟨l2, some (.int h), some (.int g), z2, ?_, g2⟩
  have e3 : forGo (.tp [8, 9]) F4 [tD (g, h), tD (h, g)] (fR n es l x2 x3 (some (.int a)) (some (.int b)) (some (.int g)) (some (.int h)) x8 x9 x10) = .nx (fR n es l2 x2 x3 (some (.int a)) (some (.int b)) (some (.int g)) (some (.int h)) (some (.int h)) (some (.int g)) z2) :=
    two_turns (by cases x8 <;> cases x9 <;> rfl) e1 rfl e2
  have e4 : F3 (fR n es l x2 x3 (some (.int a)) (some (.int b)) (some (.int g)) (some (.int h)) x8 x9 x10) = (forGo (.tp [8, 9]) F4 [tD (g, h), tD (h, g)] (fR n es l x2 x3 (some (.int a)) (some (.int b)) (some (.int g)) (some (.int h)) x8 x9 x10)).bind sSkip := rfl
  rw [e4, e3]; rfl
theorem tie_mem {es : List (Int × Int)} {t : Int × Int} (h : t ∈ es) : tie es t.1 t.2 = true := by
  unfold tie
  rw [Bool.or_eq_true]
  exact .inl (decide_eq_true h)
theorem f2_val {n : Int} {es : List (Int × Int)} {c : Nat} {l : List D} {a b : Int} {x2 x3 x6 x7 x8 x9 x10 : Option D} (he : es.length ≤ 28) (hc : c ≤ 50000) (hl : Gd es c l) (hab : tie es a b = true) :
    ∃ l' y6 y7 y8 y9 y10, F2 (fR n es l x2 x3 (some (.int a)) (some (.int b)) x6 x7 x8 x9 x10) = .nx (fR n es l' x2 x3 (some (.int a)) (some (.int b)) y6 y7 y8 y9 y10) ∧ Gd es (c + 56) l' := by
  let P : Nat → Rho → Prop := fun m ρ => ∃ l' y6 y7 y8 y9 y10, ρ = fR n es l' x2 x3 (some (.int a)) (some (.int b)) y6 y7 y8 y9 y10 ∧ Gd es (c + 2 * m) l'
  obtain ⟨ρ', h1, l', y6, y7, y8, y9, y10, rfl, h2⟩ := for_lt (t := .tp [6, 7]) (f := F3) P (xs := es.map tD) (n := 0) (N := 28) (ρ := fR n es l x2 x3 (some (.int a)) (some (.int b)) x6 x7 x8 x9 x10) (by rw [List.length_map]; omega)
    ⟨l, x6, x7, x8, x9, x10, rfl, hl⟩ (fun x hx m ρ hm ⟨l', y6, y7, y8, y9, y10, e, hg⟩ => by
      subst e
      obtain ⟨t, ht, rfl⟩ := List.mem_map.mp hx
      obtain ⟨l2, z8, z9, z10, e2, hg2⟩ := f3_val (x10 := y10) (n := n) (x2 := x2) (x3 := x3) (x8 := y8) (x9 := y9) (by omega) hg hab (tie_mem ht)
      exact ⟨_, _, by cases y6 <;> cases y7 <;> rfl, e2, l2, some (.int t.1), some (.int t.2), z8, z9, z10, rfl, hg2⟩)
  refine ⟨l', y6, y7, y8, y9, y10, ?_, h2.1, by have := h2.2; rw [List.length_map] at this; omega⟩
  have e4 : F2 (fR n es l x2 x3 (some (.int a)) (some (.int b)) x6 x7 x8 x9 x10) = (forGo (.tp [6, 7]) F3 (es.map tD) (fR n es l x2 x3 (some (.int a)) (some (.int b)) x6 x7 x8 x9 x10)).bind sSkip := rfl
  rw [e4, h1]; rfl
theorem f1_val {n : Int} {es : List (Int × Int)} {c : Nat} {l : List D} {a b : Int} {x4 x5 x6 x7 x8 x9 x10 : Option D} (he : es.length ≤ 28) (hc : c ≤ 40000) (hl : Gd es c l) (hab : tie es a b = true) :
    ∃ l' y4 y5 y6 y7 y8 y9 y10, F1 (fR n es l (some (.int a)) (some (.int b)) x4 x5 x6 x7 x8 x9 x10) = .nx (fR n es l' (some (.int a)) (some (.int b)) y4 y5 y6 y7 y8 y9 y10) ∧ Gd es (c + 112) l' := by
  obtain ⟨l1, y6, y7, y8, y9, y10, e1, h1⟩ := f2_val (x10 := x10) (n := n) (x2 := some (.int a)) (x3 := some (.int b)) (x6 := x6) (x7 := x7) (x8 := x8) (x9 := x9) he (by omega) hl hab
  obtain ⟨l2, z6, z7, z8, z9, z10, e2, h2⟩ := f2_val (x10 := y10) (n := n) (a := b) (b := a) (x2 := some (.int a)) (x3 := some (.int b)) (x6 := y6) (x7 := y7) (x8 := y8) (x9 := y9) he (by omega) h1 (by rw [tie_symm]; exact hab)
  refine ⟨l2, some (.int b), some (.int a), z6, z7, z8, z9, z10, ?_, h2.1, by have := h2.2; omega⟩
  have e3 : forGo (.tp [4, 5]) F2 [tD (a, b), tD (b, a)] (fR n es l (some (.int a)) (some (.int b)) x4 x5 x6 x7 x8 x9 x10) = .nx _ :=
    two_turns (by cases x4 <;> cases x5 <;> rfl) e1 rfl e2
  have e4 : F1 (fR n es l (some (.int a)) (some (.int b)) x4 x5 x6 x7 x8 x9 x10) = (forGo (.tp [4, 5]) F2 [tD (a, b), tD (b, a)] (fR n es l (some (.int a)) (some (.int b)) x4 x5 x6 x7 x8 x9 x10)).bind sSkip := rfl
  rw [e4, e3]; rfl
theorem es_len {n : Int} {es : List (Int × Int)} (g : GridOk n es) : es.length ≤ 28 := by
  have e : ((rng 8).flatMap fun a => ((rng 8).filter fun b => decide (a < b)).map fun b => (a, b)).length = 28 := by decide +kernel
  rw [← e]
  refine nodup_len es _ (asc_nodup g.asc) fun t ht => ?_
  have h := g.ends t ht
  have := g.hi
  exact List.mem_flatMap.mpr ⟨t.1, mem_rng.mpr ⟨h.1, by omega⟩, List.mem_map.mpr ⟨t.2, List.mem_filter.mpr ⟨mem_rng.mpr ⟨by omega, by omega⟩, decide_eq_true h.2.1⟩, rfl⟩⟩
theorem tie_dom {n : Int} {es : List (Int × Int)} (g : GridOk n es) {a b : Int} (h : tie es a b = true) : (0 ≤ a ∧ a < n) ∧ 0 ≤ b ∧ b < n := by
  unfold tie at h
  rw [Bool.or_eq_true] at h
  rcases h with h | h
  · have := g.ends _ (of_decide_eq_true h); simp only at this; omega
  · have := g.ends _ (of_decide_eq_true h); simp only at this; omega
theorem four_ok {n : Int} {es : List (Int × Int)} (g : GridOk n es) {d : D} (h : Four es d) : okTup 4 d = true := by
  obtain ⟨a, b, e, f, rfl, h⟩ := h
  have h1 := tie_dom g h.ab
  have h2 := tie_dom g h.ef
  have := g.hi
  show (4 == 4 && [a, b, e, f].all fun i => decide (0 ≤ i ∧ i < BB)) = true
  have q : ∀ i : Int, 0 ≤ i → i < n → decide (0 ≤ i ∧ i < BB) = true := fun i h1 h2 => decide_eq_true ⟨h1, by show i < 18446744073709551616; omega⟩
  rw [Bool.and_eq_true]
  refine ⟨rfl, List.all_eq_true.mpr fun i hi => ?_⟩
  simp only [List.mem_cons, List.not_mem_nil, or_false] at hi
  refine q i ?_ ?_ <;> omega
theorem v_fours {n : Int} {es : List (Int × Int)} (g : GridOk n es) : ∃ xs : List D, r_fours [gD n es] = .ret (.list xs) ∧ (∀ d ∈ xs, Four es d) ∧ xs.length ≤ 3136 := by
  have he := es_len g
  let P : Nat → Rho → Prop := fun m ρ => ∃ l y2 y3 y4 y5 y6 y7 y8 y9 y10, ρ = fR n es l y2 y3 y4 y5 y6 y7 y8 y9 y10 ∧ Gd es (112 * m) l
  obtain ⟨ρ', h1, l, y2, y3, y4, y5, y6, y7, y8, y9, y10, rfl, h2⟩ := for_lt (t := .tp [2, 3]) (f := F1) P (xs := es.map tD) (n := 0) (N := 28) (ρ := fR n es [] none none none none none none none none none) (by rw [List.length_map]; omega)
    ⟨[], none, none, none, none, none, none, none, none, none, rfl, fun d hd => (by cases hd), Nat.le_refl _⟩ (fun x hx m ρ hm ⟨l, y2, y3, y4, y5, y6, y7, y8, y9, y10, e, hg⟩ => by
      subst e
      obtain ⟨t, ht, rfl⟩ := List.mem_map.mp hx
      obtain ⟨l2, z4, z5, z6, z7, z8, z9, z10, e2, hg2⟩ := f1_val (x10 := y10) (n := n) (x4 := y4) (x5 := y5) (x6 := y6) (x7 := y7) (x8 := y8) (x9 := y9) he (by omega) hg (tie_mem ht)
      exact ⟨_, _, by cases y2 <;> cases y3 <;> rfl, e2, l2, some (.int t.1), some (.int t.2), z4, z5, z6, z7, z8, z9, z10, rfl, hg2⟩)
  have hlen : l.length ≤ 3136 := by have := h2.2; rw [List.length_map] at this; omega
  have hok : sortOk l = true := by
    unfold sortOk
    rw [Bool.or_eq_true]
    refine .inr ?_
    unfold tupsOk
    cases l with
    | nil => rfl
    | cons d l =>
      have e4 : tupN d = 4 := by obtain ⟨a, b, e, f, rfl, _⟩ := h2.1 d List.mem_cons_self; rfl
      show (decide (1 ≤ tupN d) && (d :: l).all (okTup (tupN d))) = true
      rw [e4, Bool.and_eq_true]
      exact ⟨by decide, List.all_eq_true.mpr fun x hx => four_ok g (h2.1 x hx)⟩
  refine ⟨sortD l, ?_, fun d hd => h2.1 d ((sortD_perm l).mem_iff.mp hd), by rw [(sortD_perm l).length_eq]; exact hlen⟩
  have es1 : dSorted [.list l] = some (sortD l) := if_pos hok
  have e4 : r_fours [gD n es] = (match (OS.bind (forGo (.tp [2, 3]) F1 (es.map tD) (fR n es [] none none none none none none none none none)) (sSeq (sRet (sFrz (sSorted (sCons (sVar 1) sNil)))) sSkip)) with | .nx _ => FD.ret .none | .ret d _ => .ret d | .retO l _ => .retO l | .retK l _ => .retK l | .retV k l _ => .retV k l | .ex e _ => .exc e | .no => .no) := rfl
  rw [e4, h1]
  show (match (sSeq (sRet (sFrz (sSorted (sCons (sVar 1) sNil)))) sSkip) (fR n es l y2 y3 y4 y5 y6 y7 y8 y9 y10) with | .nx _ => FD.ret .none | .ret d _ => .ret d | .retO l _ => .retO l | .retK l _ => .retK l | .retV k l _ => .retV k l | .ex e _ => .exc e | .no => .no) = _
  unfold sSorted fR
  simp only [sSeq, OS.bind, O.run, O.bind, sRet, sRetO, sRetN, sSkip, sNever, sExpr, sIf, sAsg, Rf.bindT, Rf.bindN, Rf.bindL, sAsgO, Rf.ownN, sPar, sParO, sVar, sCon, sNil, sCons, sTup, sLst, sFrz, s2, lift, dBin, bCmp, sCmp2, sAnd, sOr, sNot, sIte, sNeg, dIx, sIxv, sSl, sPart, dSl, sItems, dItems, sRng, sZip, sCall, dLen, dMax, dMin, dInt, dAbs, dTuple, sIsi, sCallD_mD, sCallR_mR, heldAt, setL, sItem, sApp, runD, runR, start0, argsR, refAt0, refC, Option.bind, Option.map, List.map_cons, List.map_nil, List.length_cons, List.length_nil, List.replicate, List.cons_append, List.nil_append, List.getElem?_cons_zero, List.getElem?_cons_succ, List.set_cons_zero, List.set_cons_succ, Nat.reduceAdd, Nat.reduceSub, reduceIte, Nat.reduceLeDiff, Nat.add_zero, Nat.zero_add, es1]
end K12

set_option maxRecDepth 100000
set_option maxHeartbeats 4000000
namespace K12
open PySem PySem.Spec PyProof.Rows L2 Rf
theorem ev_cons {α : Type} {f : Rho → O α} {g : Rho → O (List α)} {ρ ρ1 ρ2 : Rho} {x : α} {xs : List α} (h : f ρ = .ok x ρ1) (k : g ρ1 = .ok xs ρ2) : sCons f g ρ = .ok (x :: xs) ρ2 := by
  unfold sCons
  rw [h]
  show O.bind (g ρ1) _ = _
  rw [k]; rfl
theorem ev_call {g : List D → Option D} {fa : Rho → O (List D)} {ρ ρ1 : Rho} {ds : List D} {z : D} (h : fa ρ = .ok ds ρ1) (k : g ds = some z) : sCall g fa ρ = .ok z ρ1 := by
  unfold sCall
  rw [h]
  show lift (g ds) ρ1 = _
  rw [k]; rfl
theorem ev_frz {f : Rho → O (List D)} {ρ ρ1 : Rho} {l : List D} (h : f ρ = .ok l ρ1) : sFrz f ρ = .ok (.list l) ρ1 := by
  unfold sFrz
  rw [h]; rfl
theorem ev_tup {f : Rho → O (List D)} {ρ ρ1 : Rho} {l : List D} (h : f ρ = .ok l ρ1) (k : l.length ≤ 1000) : sTup f ρ = .ok (.tuple l) ρ1 := by
  unfold sTup
  rw [h]
  exact if_pos k
theorem ev_ret {f : Rho → O D} {ρ ρ1 : Rho} {d : D} (h : f ρ = .ok d ρ1) : sRet f ρ = .ret d ρ1 := by
  unfold sRet
  rw [h]; rfl
def mn (a b : Int) : Int × Int := (if b < a then b else a, if b > a then b else a)
theorem mn_cases (a b : Int) (h : a ≠ b) : mn a b = (a, b) ∧ a < b ∨ mn a b = (b, a) ∧ b < a := by
  unfold mn
  by_cases q : a < b
  · exact .inl ⟨by rw [if_neg (by omega), if_pos q], q⟩
  · exact .inr ⟨by rw [if_pos (by omega), if_neg (by omega)], by omega⟩
theorem mn_in {n : Int} {es : List (Int × Int)} (g : GridOk n es) {a b : Int} (h : a ≠ b) : mn a b ∈ es ↔ tie es a b = true := by
  unfold tie
  rw [Bool.or_eq_true, decide_eq_true_iff, decide_eq_true_iff]
  rcases mn_cases a b h with ⟨e, q⟩ | ⟨e, q⟩
  · rw [e]
    exact ⟨.inl, fun z => z.elim id fun z => by have := g.ends _ z; simp only at this; omega⟩
  · rw [e]
    exact ⟨.inr, fun z => z.elim (fun z => by have := g.ends _ z; simp only at this; omega) id⟩
theorem has_mn (p a b : Int) (h : a ≠ b) : (if has p (mn a b) = true then 1 else 0 : Nat) = (if p = a then 1 else 0) + (if p = b then 1 else 0) := by
  rcases mn_cases a b h with ⟨e, q⟩ | ⟨e, q⟩
  · rw [e]
    unfold has
    by_cases h1 : p = a
    · have h2 : ¬ p = b := by omega
      simp [h1, h2]; omega
    · by_cases h2 : p = b
      · simp [h2]; omega
      · have h3 : ¬ a = p := fun z => h1 z.symm
        have h4 : ¬ b = p := fun z => h2 z.symm
        simp [h1, h2, h3, h4]
  · rw [e]
    unfold has
    by_cases h1 : p = a
    · have h2 : ¬ p = b := by omega
      simp [h1, h2]; omega
    · by_cases h2 : p = b
      · simp [h2]; omega
      · have h3 : ¬ a = p := fun z => h1 z.symm
        have h4 : ¬ b = p := fun z => h2 z.symm
        simp [h1, h2, h3, h4]
theorem deg_cons (t : Int × Int) (l : List (Int × Int)) (p : Int) : deg (t :: l) p = (if has p t = true then 1 else 0) + deg l p := by
  unfold deg
  rw [List.filter_cons]
  split
  · rw [List.length_cons]; omega
  · omega
theorem deg_perm {l m : List (Int × Int)} (h : l.Perm m) (p : Int) : deg l p = deg m p := (h.filter _).length_eq
/-- a switch keeps all that matters -/
theorem switch_ok {n : Int} {es W : List (Int × Int)} (g : GridOk n es) {a b e f : Int} (q : FourOk es a b e f) (hW : asc W = true) (hp : W.Perm (es.filter (fun t => !decide (t ∈ [mn a b, mn e f])) ++ [mn a e, mn b f])) : GridOk n W := by
  have hab : mn a b ∈ es := (mn_in g q.n1).mpr q.ab
  have hef : mn e f ∈ es := (mn_in g q.n6).mpr q.ef
  have hne : mn a b ≠ mn e f := fun z => by
    rcases mn_cases a b q.n1 with ⟨e1, _⟩ | ⟨e1, _⟩ <;> rcases mn_cases e f q.n6 with ⟨e2, _⟩ | ⟨e2, _⟩ <;> rw [e1, e2] at z <;> (injection z with z1 z2) <;> first | exact q.n2 z1 | exact q.n3 z1 | exact q.n4 z1 | exact q.n5 z1
  have d1 := tie_dom g q.ab
  have d2 := tie_dom g q.ef
  have perm : es.Perm (mn a b :: mn e f :: es.filter fun t => !decide (t ∈ [mn a b, mn e f])) := by
    refine (List.perm_ext_iff_of_nodup (asc_nodup g.asc) ?_).mpr fun t => ?_
    · refine List.nodup_cons.mpr ⟨fun z => ?_, List.nodup_cons.mpr ⟨fun z => ?_, (asc_nodup g.asc).filter _⟩⟩
      · rcases List.mem_cons.mp z with z | z
        · exact hne z
        · have := (List.mem_filter.mp z).2; simp at this
      · have := (List.mem_filter.mp z).2; simp at this
    · rw [List.mem_cons, List.mem_cons, List.mem_filter]
      constructor
      · intro h
        by_cases h1 : t = mn a b
        · exact .inl h1
        · by_cases h2 : t = mn e f
          · exact .inr (.inl h2)
          · exact .inr (.inr ⟨h, by simp [h1, h2]⟩)
      · rintro (h | h | h)
        · rw [h]; exact hab
        · rw [h]; exact hef
        · exact h.1
  have degs : ∀ p, deg W p = deg es p := fun p => by
    rw [deg_perm hp, deg_perm perm, deg_cons, deg_cons]
    have e1 : ∀ l m : List (Int × Int), deg (l ++ m) p = deg l p + deg m p := fun l m => by unfold deg; rw [List.filter_append, List.length_append]
    rw [e1, deg_cons, deg_cons, has_mn p a b q.n1, has_mn p e f q.n6, has_mn p a e q.n2, has_mn p b f q.n5]
    have e0 : deg [] p = 0 := rfl
    rw [e0]
    omega
  refine ⟨g.lo, g.hi, hW, ?_, fun t ht => ?_⟩
  · have := g.even
    unfold even at this ⊢
    rw [degs 0]
    have e2 : (fun p => deg W p == deg es 0) = fun p => deg es p == deg es 0 := funext fun p => by rw [degs p]
    rw [e2]
    exact this
  · rcases List.mem_append.mp (hp.mem_iff.mp ht) with h | h
    · exact g.ends t (List.mem_filter.mp h).1
    · rcases List.mem_cons.mp h with h | h
      · rw [h]
        rcases mn_cases a e q.n2 with ⟨e1, h1⟩ | ⟨e1, h1⟩ <;> rw [e1] <;> simp only <;> omega
      · rw [List.mem_singleton.mp h]
        rcases mn_cases b f q.n5 with ⟨e1, h1⟩ | ⟨e1, h1⟩ <;> rw [e1] <;> simp only <;> omega
def unD : D → Int × Int
  | .tuple [.int a, .int b] => (a, b)
  | _ => (0, 0)
theorem un_tD (t : Int × Int) : unD (tD t) = t := rfl
theorem tie_rank (t : Int × Int) : rankD (tD t) = t.1 * BB + t.2 := by
  show t.1 * BB ^ 1 + (t.2 * BB ^ 0 + 0) = _
  rw [Int.pow_succ, Int.pow_zero, Int.one_mul, Int.mul_one, Int.add_zero]
/-- sorted ties -/
theorem sort_ties {W0 : List (Int × Int)} (hn : W0.Nodup) (hd : ∀ t ∈ W0, 0 ≤ t.1 ∧ t.1 < 100 ∧ 0 ≤ t.2 ∧ t.2 < 100) : ∃ W : List (Int × Int), dSorted [.list (W0.map tD)] = some (W.map tD) ∧ W.Perm W0 ∧ asc W = true := by
  have hok : sortOk (W0.map tD) = true := by
    unfold sortOk
    rw [Bool.or_eq_true]
    refine .inr ?_
    unfold tupsOk
    cases W0 with
    | nil => rfl
    | cons d l =>
      show (decide (1 ≤ 2) && ((d :: l).map tD).all (okTup 2)) = true
      rw [Bool.and_eq_true]
      refine ⟨rfl, List.all_eq_true.mpr fun x hx => ?_⟩
      obtain ⟨t, ht, rfl⟩ := List.mem_map.mp hx
      have := hd t ht
      show (2 == 2 && [t.1, t.2].all fun i => decide (0 ≤ i ∧ i < BB)) = true
      rw [Bool.and_eq_true]
      refine ⟨rfl, List.all_eq_true.mpr fun i hi => ?_⟩
      simp only [List.mem_cons, List.not_mem_nil, or_false] at hi
      refine decide_eq_true ⟨by omega, ?_⟩
      show i < 18446744073709551616
      omega
  have pm := sortD_perm (W0.map tD)
  have e1 : ((sortD (W0.map tD)).map unD).map tD = sortD (W0.map tD) := by
    rw [List.map_map]
    have : ∀ x ∈ sortD (W0.map tD), (tD ∘ unD) x = x := fun x hx => by
      obtain ⟨t, _, rfl⟩ := List.mem_map.mp (pm.mem_iff.mp hx)
      rfl
    rw [List.map_congr_left this, List.map_id'']
    intro x; rfl
  have e2 : ((sortD (W0.map tD)).map unD).Perm W0 := by
    have := pm.map unD
    rw [List.map_map, show (unD ∘ tD) = id from rfl, List.map_id] at this
    exact this
  refine ⟨(sortD (W0.map tD)).map unD, ?_, e2, ?_⟩
  · rw [e1]; exact if_pos hok
  · rw [asc_pair]
    have h1 := sortD_asc (W0.map tD)
    rw [← e1] at h1
    have h2 := List.pairwise_map.mp h1
    have h3 : ((sortD (W0.map tD)).map unD).Nodup := e2.nodup_iff.mpr hn
    refine List.Pairwise.imp_of_mem (fun {s t} hs ht h => ?_) (h2.and h3)
    obtain ⟨h, hne⟩ := h
    rw [tie_rank, tie_rank] at h
    have ds := hd s (e2.mem_iff.mp hs)
    have dt := hd t (e2.mem_iff.mp ht)
    rw [ltT_iff]
    obtain ⟨a, b⟩ := s
    obtain ⟨c, d⟩ := t
    simp only at h ds dt ⊢
    have hBB : (BB : Int) = 18446744073709551616 := rfl
    rw [hBB] at h
    by_cases q : a = c
    · by_cases q2 : b = d
      · exact absurd (by rw [q, q2]) hne
      · omega
    · omega
theorem notin_two (t o1 o2 : Int × Int) : dCmp .NotIn (tD t) (.list [tD o1, tD o2]) = some (!decide (t ∈ [o1, o2])) := by
  show (if shaped (tD t) && shaped (.list [tD o1, tD o2]) then some (!(([o1, o2].map tD).any fun z => PyData.eqv z (tD t))) else none) = _
  rw [sh_of (sh_tD t), sh_of (sh_list (k := 1) (xs := [tD o1, tD o2]) (sh_tDs [o1, o2])), any_tD]; rfl
theorem v_behind {n : Int} {es : List (Int × Int)} (g : GridOk n es) {d : D} (h : Four es d) : ∃ W, r_behind [gD n es, d] = .ret (gD n W) ∧ GridOk n W := by
  obtain ⟨a, b, e, f, rfl, q⟩ := h
  have comp : ∀ (o1 o2 : Int × Int) (x : D), sLc (.nm 8) [8] (sItems (s2 dIx (sVar 0) (sCon (.int 1)))) (s2 (bCmp .NotIn) (sVar 8) (sVar 6)) (sVar 8) [some (.dat (gD n es)), some (.dat (qD a b e f)), some (.dat (.int a)), some (.dat (.int b)), some (.dat (.int e)), some (.dat (.int f)), some (.dat (.list [tD o1, tD o2])), some (.dat x), none] = .ok ((es.filter (fun t => !decide (t ∈ [o1, o2]))).map tD) [some (.dat (gD n es)), some (.dat (qD a b e f)), some (.dat (.int a)), some (.dat (.int b)), some (.dat (.int e)), some (.dat (.int f)), some (.dat (.list [tD o1, tD o2])), some (.dat x), none] := fun o1 o2 x => by
    refine Eq.trans (slc_pure (ρ0 := [some (.dat (gD n es)), some (.dat (qD a b e f)), some (.dat (.int a)), some (.dat (.int b)), some (.dat (.int e)), some (.dat (.int f)), some (.dat (.list [tD o1, tD o2])), some (.dat x), none]) (xs := es.map tD) (fun z => (dCmp .NotIn z (.list [tD o1, tD o2])).getD false) id rfl rfl rfl rfl ?_) ?_
    rotate_left
    · rw [List.map_id, filter_map_eq tD _ (fun t => !decide (t ∈ [o1, o2])) _ fun t _ => by rw [notin_two]; rfl]
    · intro y hy
      obtain ⟨t, _, rfl⟩ := List.mem_map.mp hy
      refine ⟨[some (.dat (gD n es)), some (.dat (qD a b e f)), some (.dat (.int a)), some (.dat (.int b)), some (.dat (.int e)), some (.dat (.int f)), some (.dat (.list [tD o1, tD o2])), some (.dat x), some (.dat (tD t))], rfl, ?_, fun _ => rfl, rfl⟩
      show lift ((dCmp .NotIn (tD t) (.list [tD o1, tD o2])).map PyData.bool) _ = _
      rw [notin_two]; rfl
  have he := es_len g
  have nd : (es.filter (fun t => !decide (t ∈ [mn a b, mn e f])) ++ [mn a e, mn b f]).Nodup := by
    have h1 : mn a e ∉ es := fun z => by have := (mn_in g q.n2).mp z; rw [q.ae] at this; cases this
    have h2 : mn b f ∉ es := fun z => by have := (mn_in g q.n5).mp z; rw [q.bf] at this; cases this
    have h3 : mn a e ≠ mn b f := fun z => by
      rcases mn_cases a e q.n2 with ⟨e1, _⟩ | ⟨e1, _⟩ <;> rcases mn_cases b f q.n5 with ⟨e2, _⟩ | ⟨e2, _⟩ <;> rw [e1, e2] at z <;> (injection z with z1 z2) <;> first | exact q.n1 z1 | exact q.n3 z1 | exact q.n4 z1.symm | exact q.n6 z1
    refine List.nodup_append.mpr ⟨(asc_nodup g.asc).filter _, by simp [h3], fun x hx y hy z => ?_⟩
    have hx' := (List.mem_filter.mp hx).1
    rw [z] at hx'
    rcases List.mem_cons.mp hy with hy | hy
    · exact h1 (hy ▸ hx')
    · exact h2 (List.mem_singleton.mp hy ▸ hx')
  have dom : ∀ t ∈ es.filter (fun t => !decide (t ∈ [mn a b, mn e f])) ++ [mn a e, mn b f], 0 ≤ t.1 ∧ t.1 < 100 ∧ 0 ≤ t.2 ∧ t.2 < 100 := fun t ht => by
    have d1 := tie_dom g q.ab
    have d2 := tie_dom g q.ef
    have hi := g.hi
    rcases List.mem_append.mp ht with h | h
    · have := g.ends t (List.mem_filter.mp h).1; omega
    · rcases List.mem_cons.mp h with h | h
      · rw [h]
        rcases mn_cases a e q.n2 with ⟨e1, h1⟩ | ⟨e1, h1⟩ <;> rw [e1] <;> simp only <;> omega
      · rw [List.mem_singleton.mp h]
        rcases mn_cases b f q.n5 with ⟨e1, h1⟩ | ⟨e1, h1⟩ <;> rw [e1] <;> simp only <;> omega
  obtain ⟨W, es1, hp, hW⟩ := sort_ties nd dom
  refine ⟨W, ?_, switch_ok g q hW hp⟩
  have e4 : atI [PyData.int n, esD es] 0 = some (.int n) := rfl
  have c1 := comp (mn a b) (mn e f) (.list [tD (mn a e), tD (mn b f)])
  have hfl : (es.filter (fun t => !decide (t ∈ [mn a b, mn e f]))).length ≤ 28 := Nat.le_trans (List.length_filter_le _ _) he
  have l1 : ((es.filter (fun t => !decide (t ∈ [mn a b, mn e f]))).map tD).length + [tD (mn a e), tD (mn b f)].length ≤ 16777216 := by rw [List.length_map]; show _ + 2 ≤ _; omega
  have e5 : (es.filter (fun t => !decide (t ∈ [mn a b, mn e f]))).map tD ++ [tD (mn a e), tD (mn b f)] = (es.filter (fun t => !decide (t ∈ [mn a b, mn e f])) ++ [mn a e, mn b f]).map tD := by rw [List.map_append]; rfl
  have ρs : ∀ x6 x7 : Option D, [some (C.dat (gD n es)), some (.dat (qD a b e f)), some (.dat (.int a)), some (.dat (.int b)), some (.dat (.int e)), some (.dat (.int f)), optD x6, optD x7, none] = [some (C.dat (gD n es)), some (.dat (qD a b e f)), some (.dat (.int a)), some (.dat (.int b)), some (.dat (.int e)), some (.dat (.int f)), optD x6, optD x7, none] := fun _ _ => rfl
  have f1 : (sAsg (.tp [2, 3, 4, 5]) (sVar 1)) [some (.dat (gD n es)), some (.dat (qD a b e f)), none, none, none, none, none, none, none] = .nx [some (.dat (gD n es)), some (.dat (qD a b e f)), some (.dat (.int a)), some (.dat (.int b)), some (.dat (.int e)), some (.dat (.int f)), none, none, none] := rfl
  have f2 : (sAsg (.nm 6) (sFrz (sLst (sCons (sTup (sCons (sCall dMin (sCons (sVar 2) (sCons (sVar 3) sNil))) (sCons (sCall dMax (sCons (sVar 2) (sCons (sVar 3) sNil))) sNil))) (sCons (sTup (sCons (sCall dMin (sCons (sVar 4) (sCons (sVar 5) sNil))) (sCons (sCall dMax (sCons (sVar 4) (sCons (sVar 5) sNil))) sNil))) sNil))))) [some (.dat (gD n es)), some (.dat (qD a b e f)), some (.dat (.int a)), some (.dat (.int b)), some (.dat (.int e)), some (.dat (.int f)), none, none, none] = .nx [some (.dat (gD n es)), some (.dat (qD a b e f)), some (.dat (.int a)), some (.dat (.int b)), some (.dat (.int e)), some (.dat (.int f)), some (.dat (.list [tD (mn a b), tD (mn e f)])), none, none] := rfl
  have f3 : (sAsg (.nm 7) (sFrz (sLst (sCons (sTup (sCons (sCall dMin (sCons (sVar 2) (sCons (sVar 4) sNil))) (sCons (sCall dMax (sCons (sVar 2) (sCons (sVar 4) sNil))) sNil))) (sCons (sTup (sCons (sCall dMin (sCons (sVar 3) (sCons (sVar 5) sNil))) (sCons (sCall dMax (sCons (sVar 3) (sCons (sVar 5) sNil))) sNil))) sNil))))) [some (.dat (gD n es)), some (.dat (qD a b e f)), some (.dat (.int a)), some (.dat (.int b)), some (.dat (.int e)), some (.dat (.int f)), some (.dat (.list [tD (mn a b), tD (mn e f)])), none, none] = .nx [some (.dat (gD n es)), some (.dat (qD a b e f)), some (.dat (.int a)), some (.dat (.int b)), some (.dat (.int e)), some (.dat (.int f)), some (.dat (.list [tD (mn a b), tD (mn e f)])), some (.dat (.list [tD (mn a e), tD (mn b f)])), none] := rfl
  have f4 : (sSorted (sCons (s2 (dBin .Add) (sFrz (sLc (.nm 8) [8] (sItems (s2 dIx (sVar 0) (sCon (.int 1)))) (s2 (bCmp .NotIn) (sVar 8) (sVar 6)) (sVar 8))) (sVar 7)) sNil)) [some (.dat (gD n es)), some (.dat (qD a b e f)), some (.dat (.int a)), some (.dat (.int b)), some (.dat (.int e)), some (.dat (.int f)), some (.dat (.list [tD (mn a b), tD (mn e f)])), some (.dat (.list [tD (mn a e), tD (mn b f)])), none] = .ok (W.map tD) [some (.dat (gD n es)), some (.dat (qD a b e f)), some (.dat (.int a)), some (.dat (.int b)), some (.dat (.int e)), some (.dat (.int f)), some (.dat (.list [tD (mn a b), tD (mn e f)])), some (.dat (.list [tD (mn a e), tD (mn b f)])), none] := by
    simp only [sSorted, sCons, sNil, s2, sFrz, O.bind, c1, lift, dBin, sVar, List.getElem?_cons_zero, List.getElem?_cons_succ, if_pos l1, e5, es1]
  have f5 : (sRet (sTup (sCons (s2 dIx (sVar 0) (sCon (.int 0))) (sCons (sCall dTuple (sCons (sFrz (sSorted (sCons (s2 (dBin .Add) (sFrz (sLc (.nm 8) [8] (sItems (s2 dIx (sVar 0) (sCon (.int 1)))) (s2 (bCmp .NotIn) (sVar 8) (sVar 6)) (sVar 8))) (sVar 7)) sNil))) sNil)) sNil)))) [some (.dat (gD n es)), some (.dat (qD a b e f)), some (.dat (.int a)), some (.dat (.int b)), some (.dat (.int e)), some (.dat (.int f)), some (.dat (.list [tD (mn a b), tD (mn e f)])), some (.dat (.list [tD (mn a e), tD (mn b f)])), none] = .ret (gD n W) [some (.dat (gD n es)), some (.dat (qD a b e f)), some (.dat (.int a)), some (.dat (.int b)), some (.dat (.int e)), some (.dat (.int f)), some (.dat (.list [tD (mn a b), tD (mn e f)])), some (.dat (.list [tD (mn a e), tD (mn b f)])), none] := by
    have e4' : (s2 dIx (sVar 0) (sCon (.int 0))) [some (.dat (gD n es)), some (.dat (qD a b e f)), some (.dat (.int a)), some (.dat (.int b)), some (.dat (.int e)), some (.dat (.int f)), some (.dat (.list [tD (mn a b), tD (mn e f)])), some (.dat (.list [tD (mn a e), tD (mn b f)])), none] = .ok (.int n) [some (.dat (gD n es)), some (.dat (qD a b e f)), some (.dat (.int a)), some (.dat (.int b)), some (.dat (.int e)), some (.dat (.int f)), some (.dat (.list [tD (mn a b), tD (mn e f)])), some (.dat (.list [tD (mn a e), tD (mn b f)])), none] := rfl
    exact ev_ret (ev_tup (ev_cons e4' (ev_cons (ev_call (ev_cons (ev_frz f4) rfl) rfl) rfl)) (show 2 ≤ 1000 by decide))
  show (match (sSeq (sAsg (.tp [2, 3, 4, 5]) (sVar 1)) (sSeq (sAsg (.nm 6) (sFrz (sLst (sCons (sTup (sCons (sCall dMin (sCons (sVar 2) (sCons (sVar 3) sNil))) (sCons (sCall dMax (sCons (sVar 2) (sCons (sVar 3) sNil))) sNil))) (sCons (sTup (sCons (sCall dMin (sCons (sVar 4) (sCons (sVar 5) sNil))) (sCons (sCall dMax (sCons (sVar 4) (sCons (sVar 5) sNil))) sNil))) sNil))))) (sSeq (sAsg (.nm 7) (sFrz (sLst (sCons (sTup (sCons (sCall dMin (sCons (sVar 2) (sCons (sVar 4) sNil))) (sCons (sCall dMax (sCons (sVar 2) (sCons (sVar 4) sNil))) sNil))) (sCons (sTup (sCons (sCall dMin (sCons (sVar 3) (sCons (sVar 5) sNil))) (sCons (sCall dMax (sCons (sVar 3) (sCons (sVar 5) sNil))) sNil))) sNil))))) (sSeq (sRet (sTup (sCons (s2 dIx (sVar 0) (sCon (.int 0))) (sCons (sCall dTuple (sCons (sFrz (sSorted (sCons (s2 (dBin .Add) (sFrz (sLc (.nm 8) [8] (sItems (s2 dIx (sVar 0) (sCon (.int 1)))) (s2 (bCmp .NotIn) (sVar 8) (sVar 6)) (sVar 8))) (sVar 7)) sNil))) sNil)) sNil)))) sSkip)))) [some (.dat (gD n es)), some (.dat (qD a b e f)), none, none, none, none, none, none, none] with | .nx _ => FD.ret .none | .ret d _ => .ret d | .retO l _ => .retO l | .retK l _ => .retK l | .retV k l _ => .retV k l | .ex e _ => .exc e | .no => .no) = _
  unfold sSeq
  rw [f1]
  simp only [OS.bind]
  rw [f2]
  simp only [OS.bind]
  rw [f3]
  simp only [OS.bind]
  rw [f5]
end K12

set_option maxRecDepth 100000
set_option maxHeartbeats 4000000
namespace K12
open PySem PySem.Spec PyProof.Rows L2 Rf
theorem ev_seq {f g : Rho → OS} {ρ ρ1 : Rho} (h : f ρ = .nx ρ1) : sSeq f g ρ = g ρ1 := by
  unfold sSeq
  rw [h]; rfl
theorem ev_asg {t : Tg} {fa : Rho → O D} {ρ ρ1 ρ2 : Rho} {d : D} (h : fa ρ = .ok d ρ1) (k : Rf.bindT t d ρ1 = some ρ2) : sAsg t fa ρ = .nx ρ2 := by
  unfold sAsg
  rw [h]
  show (match Rf.bindT t d ρ1 with | some ρ2 => OS.nx ρ2 | none => .no) = _
  rw [k]
theorem ev_s2 {g : D → D → Option D} {fa fb : Rho → O D} {ρ ρ1 ρ2 : Rho} {x y z : D} (h : fa ρ = .ok x ρ1) (k : fb ρ1 = .ok y ρ2) (e : g x y = some z) : s2 g fa fb ρ = .ok z ρ2 := by
  unfold s2
  rw [h]
  show O.bind (fb ρ1) _ = _
  rw [k]
  show lift (g x y) ρ2 = _
  rw [e]; rfl
theorem ev_callD {f : List D → FD} {fa : Rho → O (List D)} {ρ ρ1 : Rho} {ds : List D} {d : D} (h : fa ρ = .ok ds ρ1) (k : f ds = .ret d) : sCallD (mD f) fa ρ = .ok d ρ1 := by
  rw [sCallD_mD, h]
  show (match f ds with | .ret d => O.ok d ρ1 | .retO l => O.ok (.list l) ρ1 | .retK _ => O.no | .retV _ _ => O.no | .exc e => O.ex e ρ1 | .no => O.no) = _
  rw [k]
theorem ev_ite {fc fa fb : Rho → O D} {ρ ρ1 : Rho} {b : Bool} (h : fc ρ = .ok (.bool b) ρ1) : sIte fc fa fb ρ = if b = true then fa ρ1 else fb ρ1 := by
  unfold sIte
  rw [h]
  cases b <;> rfl
theorem ev_for {t : Tg} {fi : Rho → O (List D)} {f : Rho → OS} {ρ ρ1 : Rho} {xs : List D} (h : fi ρ = .ok xs ρ1) : sFor t fi f ρ = forGo t f xs ρ1 := by
  unfold sFor
  rw [h]; rfl
def dR (lo hi : Int) (l : List D) (x3 x4 x5 x6 x7 x8 : Option D) : Rho := [some (.ref l), some (.dat (.int lo)), some (.dat (.int hi)), optD x3, optD x4, optD x5, optD x6, optD x7, optD x8]
section
variable {lo hi : Int}
theorem dip_at {l : List D} {x3 x4 x5 x6 x7 x8 : Option D} {many : Int} {fa : Rho → O D} (h : PotOk l) (h1 : 1 ≤ many) (h2 : many ≤ 8192) (hf : fa (dR lo hi l x3 x4 x5 x6 x7 x8) = .ok (.int many) (dR lo hi l x3 x4 x5 x6 x7 x8)) :
    ∃ (r : Int) (l' : List D), sCallR (mR r_dip) 0 (sCons fa sNil) (dR lo hi l x3 x4 x5 x6 x7 x8) = .ok (.int r) (dR lo hi l' x3 x4 x5 x6 x7 x8) ∧ 0 ≤ r ∧ r < many ∧ PotOk l' := by
  obtain ⟨r, l', e, h3, h4, h5⟩ := v_dip h h1 h2
  exact ⟨r, l', callR_eq (f := r_dip) (i := 0) rfl (ev_cons hf rfl) rfl e, h3, h4, h5⟩
def dC : Rho → O D := s2 (bCmp .Eq) (sCallR (mR r_dip) 0 (sCons (sCon (.int 2)) sNil)) (sCon (.int 0))
theorem paces_go {x3 x4 x5 x6 x7 : Option D} : ∀ (xs : List Int) (l : List D), PotOk l → ∃ (P : List Int) (l' : List D), lcGo (.nm 8) [8] dC (sVar 8) (xs.map .int) (dR lo hi l x3 x4 x5 x6 x7 none) = .ok (P.map .int) (dR lo hi l' x3 x4 x5 x6 x7 none) ∧ P ∈ subs xs ∧ PotOk l'
  | [], l, h => ⟨[], l, rfl, List.mem_singleton.mpr rfl, h⟩
  | x :: xs, l, h => by
    obtain ⟨r, l1, e1, h1, h2, h3⟩ := dip_at (lo := lo) (hi := hi) (x3 := x3) (x4 := x4) (x5 := x5) (x6 := x6) (x7 := x7) (x8 := some (.int x)) (fa := sCon (.int 2)) h (by decide) (by decide) rfl
    obtain ⟨P, l2, e2, h4, h5⟩ := paces_go (x3 := x3) (x4 := x4) (x5 := x5) (x6 := x6) (x7 := x7) xs l1 h3
    have ec : dC (dR lo hi l x3 x4 x5 x6 x7 (some (.int x))) = .ok (.bool (r == 0)) (dR lo hi l1 x3 x4 x5 x6 x7 (some (.int x))) := ev_s2 (g := bCmp .Eq) e1 rfl (by unfold bCmp; rw [eq_ii]; rfl)
    have eb : Rf.bindT (.nm 8) (.int x) (dR lo hi l x3 x4 x5 x6 x7 none) = some (dR lo hi l x3 x4 x5 x6 x7 (some (.int x))) := rfl
    have ew : wipeR (dR lo hi l1 x3 x4 x5 x6 x7 (some (.int x))) [8] = dR lo hi l1 x3 x4 x5 x6 x7 none := rfl
    have ev : sVar 8 (dR lo hi l1 x3 x4 x5 x6 x7 (some (.int x))) = .ok (.int x) (dR lo hi l1 x3 x4 x5 x6 x7 (some (.int x))) := rfl
    rw [List.map_cons]
    unfold lcGo
    rw [eb]
    dsimp only
    rw [ec]
    cases (r == 0) with
    | true =>
      dsimp only
      rw [ev]
      dsimp only
      rw [ew, e2]
      exact ⟨x :: P, l2, rfl, List.mem_append_right _ (List.mem_map.mpr ⟨P, h4, rfl⟩), h5⟩
    | false =>
      dsimp only
      rw [ew, e2]
      exact ⟨P, l2, rfl, List.mem_append_left _ h4, h5⟩
def dB : Rho → OS := sSeq (sAsg (.nm 7) (sCallD (mD r_fours) (sCons (sVar 5) sNil))) (sSeq (sAsg (.nm 5) (sIte (s2 (bCmp .NotEq) (sVar 7) (sFrz (sLst sNil))) (sCallD (mD r_behind) (sCons (sVar 5) (sCons (sCallR (mR r_any) 0 (sCons (sVar 7) sNil)) sNil))) (sVar 5))) sSkip)
theorem four_sh {es : List (Int × Int)} {d : D} (h : Four es d) : shK 60 d := by
  obtain ⟨a, b, e, f, rfl, _⟩ := h
  exact sh_up (sh_tup (k := 0) (sh_ints [a, b, e, f])) (by decide)
theorem turn_val {n : Int} {es : List (Int × Int)} {l : List D} {x3 x4 x6 x7 : Option D} (g : GridOk n es) (h : PotOk l) : ∃ (es' : List (Int × Int)) (l' : List D) (y7 : Option D), dB (dR lo hi l x3 x4 (some (gD n es)) x6 x7 none) = .nx (dR lo hi l' x3 x4 (some (gD n es')) x6 y7 none) ∧ GridOk n es' ∧ PotOk l' := by
  obtain ⟨xs, e1, h1, h2⟩ := v_fours g
  have s1 : sAsg (.nm 7) (sCallD (mD r_fours) (sCons (sVar 5) sNil)) (dR lo hi l x3 x4 (some (gD n es)) x6 x7 none) = .nx (dR lo hi l x3 x4 (some (gD n es)) x6 (some (.list xs)) none) := ev_asg (ev_callD (ev_cons rfl rfl) e1) (by cases x7 <;> rfl)
  have ec : s2 (bCmp .NotEq) (sVar 7) (sFrz (sLst sNil)) (dR lo hi l x3 x4 (some (gD n es)) x6 (some (.list xs)) none) = .ok (.bool (!xs.isEmpty)) (dR lo hi l x3 x4 (some (gD n es)) x6 (some (.list xs)) none) := ev_s2 (g := bCmp .NotEq) (y := .list []) rfl rfl (by unfold bCmp; rw [ne_nil fun d hd => four_sh (h1 d hd)]; rfl)
  unfold dB
  rw [ev_seq s1]
  cases xs with
  | nil =>
    refine ⟨es, l, some (.list []), ?_, g, h⟩
    rw [ev_seq (ev_asg (d := gD n es) (ρ1 := dR lo hi l x3 x4 (some (gD n es)) x6 (some (.list [])) none) (ρ2 := dR lo hi l x3 x4 (some (gD n es)) x6 (some (.list [])) none) (by rw [ev_ite ec]; rfl) rfl)]
    rfl
  | cons d0 xs =>
    obtain ⟨d, l1, e2, hd, hp⟩ := v_any h (xs := d0 :: xs) (by simp) (by omega)
    obtain ⟨W, e3, hW⟩ := v_behind g (h1 d hd)
    have ea : sCallR (mR r_any) 0 (sCons (sVar 7) sNil) (dR lo hi l x3 x4 (some (gD n es)) x6 (some (.list (d0 :: xs))) none) = .ok d (dR lo hi l1 x3 x4 (some (gD n es)) x6 (some (.list (d0 :: xs))) none) := callR_eq (f := r_any) (i := 0) (fa := sCons (sVar 7) sNil) (ρ := dR lo hi l x3 x4 (some (gD n es)) x6 (some (.list (d0 :: xs))) none) (ρ1 := dR lo hi l x3 x4 (some (gD n es)) x6 (some (.list (d0 :: xs))) none) (ds := [.list (d0 :: xs)]) (l0 := l) (l := l) rfl rfl rfl e2
    have eb : sCallD (mD r_behind) (sCons (sVar 5) (sCons (sCallR (mR r_any) 0 (sCons (sVar 7) sNil)) sNil)) (dR lo hi l x3 x4 (some (gD n es)) x6 (some (.list (d0 :: xs))) none) = .ok (gD n W) (dR lo hi l1 x3 x4 (some (gD n es)) x6 (some (.list (d0 :: xs))) none) := ev_callD (ev_cons rfl (ev_cons ea rfl)) e3
    refine ⟨W, l1, some (.list (d0 :: xs)), ?_, hW, hp⟩
    rw [ev_seq (ev_asg (d := gD n W) (ρ1 := dR lo hi l1 x3 x4 (some (gD n es)) x6 (some (.list (d0 :: xs))) none) (ρ2 := dR lo hi l1 x3 x4 (some (gD n W)) x6 (some (.list (d0 :: xs))) none) (by rw [ev_ite ec]; exact eb) rfl)]
    rfl
theorem v_drawn {l : List D} (hlo : 3 ≤ lo) (hlh : lo ≤ hi) (hhi : hi ≤ 8) (h : PotOk l) : ∃ (n : Int) (es : List (Int × Int)) (l' : List D), r_drawn l [.int lo, .int hi] = .ret (gD n es) l' ∧ GridOk n es ∧ PotOk l' ∧ lo ≤ n ∧ n ≤ hi := by
  -- how many places
  obtain ⟨r, l1, e1, r0, r1, p1⟩ := dip_at (lo := lo) (hi := hi) (x3 := none) (x4 := none) (x5 := none) (x6 := none) (x7 := none) (x8 := none) (many := hi - lo + 1) (fa := s2 (dBin .Add) (s2 (dBin .Sub) (sVar 2) (sVar 1)) (sCon (.int 1))) h (by omega) (by omega) rfl
  obtain ⟨m, hm⟩ : ∃ m, m = lo + r := ⟨_, rfl⟩
  have s1 : sAsg (.nm 3) (s2 (dBin .Add) (sVar 1) (sCallR (mR r_dip) 0 (sCons (s2 (dBin .Add) (s2 (dBin .Sub) (sVar 2) (sVar 1)) (sCon (.int 1))) sNil))) (dR lo hi l none none none none none none) = .nx (dR lo hi l1 (some (.int m)) none none none none none) := by
    rw [hm]; exact ev_asg (ev_s2 (g := dBin .Add) rfl e1 rfl) rfl
  obtain ⟨H, hH, eH⟩ : ∃ H : List Int, (m, H) ∈ halves ∧ ∀ l, sRng (sCons (sCon (.int 1)) (sCons (s2 (dBin .Add) (s2 (dBin .FloorDiv) (sVar 3) (sCon (.int 2))) (sCon (.int 1))) sNil)) (dR lo hi l (some (.int m)) none none none none none) = .ok (H.map .int) (dR lo hi l (some (.int m)) none none none none none) := by
    have : m = 3 ∨ m = 4 ∨ m = 5 ∨ m = 6 ∨ m = 7 ∨ m = 8 := by omega
    rcases this with q | q | q | q | q | q <;> rw [q]
    · exact ⟨[1], by decide, fun _ => rfl⟩
    · exact ⟨[1, 2], by decide, fun _ => rfl⟩
    · exact ⟨[1, 2], by decide, fun _ => rfl⟩
    · exact ⟨[1, 2, 3], by decide, fun _ => rfl⟩
    · exact ⟨[1, 2, 3], by decide, fun _ => rfl⟩
    · exact ⟨[1, 2, 3, 4], by decide, fun _ => rfl⟩
  obtain ⟨P, l2, e2, hP, p2⟩ := paces_go (lo := lo) (hi := hi) (x3 := some (.int m)) (x4 := none) (x5 := none) (x6 := none) (x7 := none) H l1 p1
  have s2' : sAsg (.nm 4) (sFrz (sLc (.nm 8) [8] (sRng (sCons (sCon (.int 1)) (sCons (s2 (dBin .Add) (s2 (dBin .FloorDiv) (sVar 3) (sCon (.int 2))) (sCon (.int 1))) sNil))) (s2 (bCmp .Eq) (sCallR (mR r_dip) 0 (sCons (sCon (.int 2)) sNil)) (sCon (.int 0))) (sVar 8))) (dR lo hi l1 (some (.int m)) none none none none none) = .nx (dR lo hi l2 (some (.int m)) (some (.list (P.map .int))) none none none none) := by
    refine ev_asg (ev_frz (ρ1 := dR lo hi l2 (some (.int m)) none none none none none) (l := P.map .int) ?_) rfl
    unfold sLc
    rw [eH]
    show (if notHeld (dR lo hi l1 (some (.int m)) none none none none none) [8] = true then (match lcGo (.nm 8) [8] dC (sVar 8) (H.map .int) (dR lo hi l1 (some (.int m)) none none none none none) with | .ok ys ρ2 => O.ok ys (restR (dR lo hi l1 (some (.int m)) none none none none none) ρ2 [8]) | _ => .no) else .no) = _
    rw [if_pos (show notHeld (dR lo hi l1 (some (.int m)) none none none none none) [8] = true from rfl), e2]
    rfl
  -- the round
  have ec : s2 (bCmp .NotEq) (sVar 4) (sFrz (sLst sNil)) (dR lo hi l2 (some (.int m)) (some (.list (P.map .int))) none none none none) = .ok (.bool (!P.isEmpty)) (dR lo hi l2 (some (.int m)) (some (.list (P.map .int))) none none none none) := ev_s2 (g := bCmp .NotEq) (y := .list []) rfl rfl (by unfold bCmp; rw [ne_nil (sh_ints P), List.isEmpty_map]; rfl)
  obtain ⟨es, s3, g⟩ : ∃ es, sAsg (.nm 5) (sCallD (mD r_round) (sCons (sVar 3) (sCons (sIte (s2 (bCmp .NotEq) (sVar 4) (sFrz (sLst sNil))) (sVar 4) (sFrz (sLst (sCons (sCon (.int 1)) sNil)))) sNil))) (dR lo hi l2 (some (.int m)) (some (.list (P.map .int))) none none none none) = .nx (dR lo hi l2 (some (.int m)) (some (.list (P.map .int))) (some (gD m es)) none none none) ∧ GridOk m es := by
    by_cases hz : P = []
    · have h1 : [1] ∈ subs H := by
        have key : (halves.all fun h => (subs h.2).contains [1]) = true := by decide +kernel
        have := List.all_eq_true.mp key _ hH
        simpa using this
      obtain ⟨es, e, g⟩ := v_round hH h1 (by simp)
      refine ⟨es, ev_asg (ev_callD (ev_cons rfl (ev_cons (x := .list [.int 1]) (ρ1 := dR lo hi l2 (some (.int m)) (some (.list (P.map .int))) none none none none) ?_ rfl)) e) rfl, g⟩
      rw [ev_ite ec, hz]; rfl
    · obtain ⟨es, e, g⟩ := v_round hH hP hz
      refine ⟨es, ev_asg (ev_callD (ev_cons rfl (ev_cons (x := .list (P.map .int)) (ρ1 := dR lo hi l2 (some (.int m)) (some (.list (P.map .int))) none none none none) ?_ rfl)) e) rfl, g⟩
      rw [ev_ite ec]
      have : P.isEmpty = false := by cases P; exact absurd rfl hz; rfl
      rw [this]; rfl
  -- the switches
  obtain ⟨t, l3, e3, t0, t1, p3⟩ := dip_at (lo := lo) (hi := hi) (x3 := some (.int m)) (x4 := some (.list (P.map .int))) (x5 := some (gD m es)) (x6 := none) (x7 := none) (x8 := none) (many := 4) (fa := sCon (.int 4)) p2 (by decide) (by decide) rfl
  have er : sRng (sCons (sCallR (mR r_dip) 0 (sCons (sCon (.int 4)) sNil)) sNil) (dR lo hi l2 (some (.int m)) (some (.list (P.map .int))) (some (gD m es)) none none none) = .ok ((rng t).map .int) (dR lo hi l3 (some (.int m)) (some (.list (P.map .int))) (some (gD m es)) none none none) := by
    unfold sRng
    rw [ev_cons (g := sNil) (xs := []) (ρ2 := dR lo hi l3 (some (.int m)) (some (.list (P.map .int))) (some (gD m es)) none none none) e3 rfl, ← rngD]
    show (if -(2 ^ 62) ≤ t ∧ t ≤ 16777216 then _ else _) = _
    rw [if_pos (by omega)]
  let Pr : Nat → Rho → Prop := fun _ ρ => ∃ (es : List (Int × Int)) (l : List D) (x6 x7 : Option D), ρ = dR lo hi l (some (.int m)) (some (.list (P.map .int))) (some (gD m es)) x6 x7 none ∧ GridOk m es ∧ PotOk l
  obtain ⟨ρ', e4, es', l', x6, x7, rfl, g', p4⟩ := for_num (t := .nm 6) (f := dB) Pr (xs := (rng t).map .int) (n := 0) (ρ := dR lo hi l3 (some (.int m)) (some (.list (P.map .int))) (some (gD m es)) none none none) ⟨es, l3, none, none, rfl, g, p3⟩
    (fun x hx k ρ ⟨es, l, x6, x7, e, g, p⟩ => by
      subst e
      obtain ⟨es', l', y7, e, g', p'⟩ := turn_val (lo := lo) (hi := hi) (x3 := some (.int m)) (x4 := some (.list (P.map .int))) (x6 := some x) (x7 := x7) g p
      exact ⟨_, _, by cases x6 <;> rfl, e, es', l', some x, y7, rfl, g', p'⟩)
  refine ⟨m, es', l', ?_, g', p4, by omega, by omega⟩
  have hfn : fn__law_drawn r_dip r_any r_round r_fours r_behind = sSeq (sAsg (.nm 3) (s2 (dBin .Add) (sVar 1) (sCallR (mR r_dip) 0 (sCons (s2 (dBin .Add) (s2 (dBin .Sub) (sVar 2) (sVar 1)) (sCon (.int 1))) sNil)))) (sSeq (sAsg (.nm 4) (sFrz (sLc (.nm 8) [8] (sRng (sCons (sCon (.int 1)) (sCons (s2 (dBin .Add) (s2 (dBin .FloorDiv) (sVar 3) (sCon (.int 2))) (sCon (.int 1))) sNil))) (s2 (bCmp .Eq) (sCallR (mR r_dip) 0 (sCons (sCon (.int 2)) sNil)) (sCon (.int 0))) (sVar 8)))) (sSeq (sAsg (.nm 5) (sCallD (mD r_round) (sCons (sVar 3) (sCons (sIte (s2 (bCmp .NotEq) (sVar 4) (sFrz (sLst sNil))) (sVar 4) (sFrz (sLst (sCons (sCon (.int 1)) sNil)))) sNil)))) (sSeq (sFor (.nm 6) (sRng (sCons (sCallR (mR r_dip) 0 (sCons (sCon (.int 4)) sNil)) sNil)) dB) (sSeq (sRet (sVar 5)) sSkip)))) := rfl
  show (match fn__law_drawn r_dip r_any r_round r_fours r_behind (dR lo hi l none none none none none none) with | .nx ρ => (match refAt0 ρ with | some l' => FL.ret .none l' | none => .no) | .ret d ρ => (match refAt0 ρ with | some l' => .ret d l' | none => .no) | .retO _ _ => .no | .retK _ _ => .no | .retV _ _ _ => .no | .ex e ρ => (match refAt0 ρ with | some l' => .exc e l' | none => .no) | .no => .no) = _
  rw [hfn, ev_seq s1, ev_seq s2', ev_seq s3, ev_seq ((ev_for er).trans e4)]
  rfl
end
end K12

set_option maxRecDepth 100000
set_option maxHeartbeats 4000000
namespace K12
open PySem PySem.Spec PyProof.Rows L2 Rf
theorem ev_and {f g : Rho → O D} {ρ ρ1 : Rho} {b : Bool} (h : f ρ = .ok (.bool b) ρ1) : sAnd f g ρ = if b = true then g ρ1 else .ok (.bool false) ρ1 := by
  unfold sAnd; rw [h]; cases b <;> rfl
theorem ev_or {f g : Rho → O D} {ρ ρ1 : Rho} {b : Bool} (h : f ρ = .ok (.bool b) ρ1) : sOr f g ρ = if b = true then .ok (.bool true) ρ1 else g ρ1 := by
  unfold sOr; rw [h]; cases b <;> rfl
theorem ev_not {f : Rho → O D} {ρ ρ1 : Rho} {b : Bool} (h : f ρ = .ok (.bool b) ρ1) : sNot f ρ = .ok (.bool (!b)) ρ1 := by
  unfold sNot; rw [h]; cases b <;> rfl
theorem ev_if {fc : Rho → O D} {f g : Rho → OS} {ρ ρ1 : Rho} {b : Bool} (h : fc ρ = .ok (.bool b) ρ1) : sIf fc f g ρ = if b = true then f ρ1 else g ρ1 := by
  unfold sIf; rw [h]; cases b <;> rfl
theorem ev_expr {f : Rho → O D} {ρ ρ1 : Rho} {d : D} (h : f ρ = .ok d ρ1) : sExpr f ρ = .nx ρ1 := by
  unfold sExpr; rw [h]; rfl
theorem ev_exprX {f : Rho → O D} {ρ ρ1 : Rho} {e : Exc} (h : f ρ = .ex e ρ1) : sExpr f ρ = .ex e ρ1 := by
  unfold sExpr; rw [h]; rfl
theorem ev_seqX {f g : Rho → OS} {ρ ρ1 : Rho} {e : Exc} (h : f ρ = .ex e ρ1) : sSeq f g ρ = .ex e ρ1 := by
  unfold sSeq; rw [h]; rfl
theorem ev_seqR {f g : Rho → OS} {ρ ρ1 : Rho} {d : D} (h : f ρ = .ret d ρ1) : sSeq f g ρ = .ret d ρ1 := by
  unfold sSeq; rw [h]; rfl
theorem ev_callX {f : List D → FD} {fa : Rho → O (List D)} {ρ ρ1 : Rho} {ds : List D} {x : Exc} (h : fa ρ = .ok ds ρ1) (k : f ds = .exc x) : sCallD (mD f) fa ρ = .ex x ρ1 := by
  rw [sCallD_mD, h]
  show (match f ds with | .ret d => O.ok d ρ1 | .retO l => O.ok (.list l) ρ1 | .retK _ => O.no | .retV _ _ => O.no | .exc e => O.ex e ρ1 | .no => O.no) = _
  rw [k]
theorem ev_word {f : Rho → O D} {ρ ρ1 : Rho} {nm z : Str} (h : f ρ = .ex (.own nm) ρ1) (k : kwd nm = some z) : sWord kwd f ρ = .ok (.str z) ρ1 := by
  unfold sWord
  rw [h]
  dsimp only
  rw [show wordOf kwd (.own nm) = kwd nm from rfl, k]
theorem ev_full {f : Rho → O D} {ρ ρ1 : Rho} (h : f ρ = .ex (.many 8) ρ1) : sWord kwd f ρ = .ok (.str "full8") ρ1 := by
  unfold sWord
  rw [h]
  dsimp only
  rw [show wordOf kwd (.many 8) = some ("full8" : Str) by kernel_rfl]
/-! ### defs that end at a check -/
theorem runX {m k : Nat} {fn : Rho → OS} {ds : List D} {e : Exc} {ρ : Rho} (hl : ds.length = m) (h : fn (start0 k (ds.map .dat)) = .ex e ρ) : runD m k fn ds = .exc e := by unfold runD; rw [if_pos hl, h]
theorem runN {m k : Nat} {fn : Rho → OS} {ds : List D} {ρ : Rho} (hl : ds.length = m) (h : fn (start0 k (ds.map .dat)) = .nx ρ) : runD m k fn ds = .ret .none := by unfold runD; rw [if_pos hl, h]
theorem runR' {m k : Nat} {fn : Rho → OS} {ds : List D} {d : D} {ρ : Rho} (hl : ds.length = m) (h : fn (start0 k (ds.map .dat)) = .ret d ρ) : runD m k fn ds = .ret d := by unfold runD; rw [if_pos hl, h]
theorem go {f : List D → FD} {fa : Rho → O (List D)} {g : Rho → OS} {ρ ρ1 : Rho} {ds : List D} {d : D} {r : OS} (h1 : fa ρ = .ok ds ρ1) (h : f ds = .ret d) (k : g ρ1 = r) : sSeq (sExpr (sCallD (mD f) fa)) g ρ = r := by
  rw [ev_seq (ev_expr (ev_callD h1 h))]; exact k
theorem stop {f : List D → FD} {fa : Rho → O (List D)} {g : Rho → OS} {ρ ρ1 : Rho} {ds : List D} {e : Exc} (h1 : fa ρ = .ok ds ρ1) (h : f ds = .exc e) : sSeq (sExpr (sCallD (mD f) fa)) g ρ = .ex e ρ1 := ev_seqX (ev_exprX (ev_callX h1 h))
theorem ifY {fc : Rho → O D} {f g h : Rho → OS} {ρ ρ1 : Rho} {r : OS} (e : fc ρ = .ok (.bool true) ρ1) (k : sSeq f h ρ1 = r) : sSeq (sIf fc f g) h ρ = r := by
  unfold sSeq at k ⊢
  rw [ev_if e, if_pos rfl]; exact k
theorem ifN {fc : Rho → O D} {f g h : Rho → OS} {ρ ρ1 : Rho} {r : OS} (e : fc ρ = .ok (.bool false) ρ1) (k : sSeq g h ρ1 = r) : sSeq (sIf fc f g) h ρ = r := by
  unfold sSeq at k ⊢
  rw [ev_if e, if_neg Bool.false_ne_true]; exact k
theorem skip {h : Rho → OS} {ρ : Rho} {r : OS} (k : h ρ = r) : sSeq sSkip h ρ = r := k
theorem callB {f : List D → FD} {fa : Rho → O (List D)} {ρ ρ1 : Rho} {ds : List D} {b : Bool} (h : fa ρ = .ok ds ρ1) (k : f ds = .ret (.bool b)) : sCallD (mD f) fa ρ = .ok (.bool b) ρ1 := ev_callD h k
end K12

set_option maxRecDepth 100000
set_option maxHeartbeats 4000000
namespace K12
open PySem PySem.Spec PyProof.Rows L2 Rf SX
/-! ### texts, as lists of codes -/
theorem spl_hit1 (s : Nat) (acc r : List Nat) : TL.spl [s] 0 acc (s :: r) = acc :: TL.spl [s] 0 [] r := TL.spl_hit (by simp [TL.pre])
theorem spl_miss1 {s c : Nat} (acc r : List Nat) (h : c ≠ s) : TL.spl [s] 0 acc (c :: r) = TL.spl [s] 0 (acc ++ [c]) r := TL.spl_miss (TL.pre_of_head [] r h)
theorem spl_ne (s : Nat) : ∀ a acc, TL.spl [s] 0 acc a ≠ []
  | [], acc => by rw [TL.spl_nil]; simp
  | c :: r, acc => by
    by_cases h : c = s
    · subst h; rw [spl_hit1]; simp
    · rw [spl_miss1 _ _ h]; exact spl_ne s r _
theorem joinL_cons {Z p : List Nat} {l : List (List Nat)} (h : l ≠ []) : TL.joinL Z (p :: l) = p ++ (Z ++ TL.joinL Z l) := by
  cases l with
  | nil => exact absurd rfl h
  | cons q r => rfl
theorem joinL_spl (s : Nat) : ∀ a acc, TL.joinL [s] (TL.spl [s] 0 acc a) = acc ++ a
  | [], acc => by rw [TL.spl_nil]; simp [TL.joinL]
  | c :: r, acc => by
    by_cases h : c = s
    · subst h; rw [spl_hit1, joinL_cons (spl_ne _ _ _), joinL_spl c r]; simp
    · rw [spl_miss1 _ _ h, joinL_spl s r]; simp
theorem spl_off (s : Nat) : ∀ a acc, s ∉ acc → ∀ w ∈ TL.spl [s] 0 acc a, s ∉ w
  | [], acc, h, w, hw => by rw [TL.spl_nil, List.mem_singleton] at hw; rw [hw]; exact h
  | c :: r, acc, h, w, hw => by
    by_cases e : c = s
    · subst e
      rw [spl_hit1] at hw
      rcases List.mem_cons.mp hw with rfl | hw
      · exact h
      · exact spl_off c r [] (by simp) w hw
    · rw [spl_miss1 _ _ e] at hw
      exact spl_off s r _ (by simp [h, Ne.symm e]) w hw
def mu (ws : List (List Nat)) : Nat := (ws.map fun w => w.length + 1).sum
theorem mu_cons (w : List Nat) (ws : List (List Nat)) : mu (w :: ws) = w.length + 1 + mu ws := by unfold mu; rw [List.map_cons, List.sum_cons]
theorem mu_app (ws vs : List (List Nat)) : mu (ws ++ vs) = mu ws + mu vs := by unfold mu; rw [List.map_append, List.sum_append]
theorem mu_take (ws : List (List Nat)) (i : Nat) : mu (ws.take i) ≤ mu ws := by
  have := mu_app (ws.take i) (ws.drop i)
  rw [List.take_append_drop] at this; omega
theorem mu_drop (ws : List (List Nat)) (i : Nat) : mu (ws.drop i) ≤ mu ws := by
  have := mu_app (ws.take i) (ws.drop i)
  rw [List.take_append_drop] at this; omega
theorem mu_len : ∀ ws : List (List Nat), ws.length ≤ mu ws
  | [] => by simp [mu]
  | w :: ws => by rw [mu_cons, List.length_cons]; have := mu_len ws; omega
theorem mu_mem : ∀ {ws : List (List Nat)} {w : List Nat}, w ∈ ws → w.length + 1 ≤ mu ws
  | v :: ws, w, h => by
    rw [mu_cons]
    rcases List.mem_cons.mp h with rfl | h
    · omega
    · have := mu_mem h; omega
theorem joinL_len (s : Nat) : ∀ ws : List (List Nat), ws ≠ [] → (TL.joinL [s] ws).length + 1 = mu ws
  | [], h => absurd rfl h
  | [p], _ => by rw [mu_cons]; simp [TL.joinL, mu]
  | p :: q :: r, _ => by
    have ih := joinL_len s (q :: r) (by simp)
    rw [mu_cons, joinL_cons (by simp), List.length_append, List.length_append, List.length_singleton]; omega
theorem joinL_cnt (s : Nat) : ∀ ws : List (List Nat), ws ≠ [] → (∀ w ∈ ws, s ∉ w) → (TL.joinL [s] ws).count s + 1 = ws.length
  | [], h, _ => absurd rfl h
  | [p], _, h => by
    have : p.count s = 0 := List.count_eq_zero.mpr (h p (by simp))
    simp [TL.joinL, this]
  | p :: q :: r, _, h => by
    have ih := joinL_cnt s (q :: r) (by simp) fun w hw => h w (List.mem_cons_of_mem _ hw)
    have : p.count s = 0 := List.count_eq_zero.mpr (h p (by simp))
    rw [joinL_cons (by simp), List.count_append, List.count_append, this, List.length_cons]
    simp at ih ⊢; omega
theorem joinL_mem (s : Nat) : ∀ (ws : List (List Nat)) (c : Nat), c ∈ TL.joinL [s] ws → c = s ∨ ∃ w ∈ ws, c ∈ w
  | [], c, h => by simp [TL.joinL] at h
  | [p], c, h => .inr ⟨p, by simp, h⟩
  | p :: q :: r, c, h => by
    rw [joinL_cons (by simp)] at h
    rcases List.mem_append.mp h with h | h
    · exact .inr ⟨p, by simp, h⟩
    · rcases List.mem_append.mp h with h | h
      · exact .inl (List.mem_singleton.mp h)
      · rcases joinL_mem s (q :: r) c h with h | ⟨w, h1, h2⟩
        · exact .inl h
        · exact .inr ⟨w, List.mem_cons_of_mem _ h1, h2⟩
theorem mem_joinL (s : Nat) : ∀ (ws : List (List Nat)) (w : List Nat) (c : Nat), w ∈ ws → c ∈ w → c ∈ TL.joinL [s] ws
  | [p], w, c, h, k => by rw [List.mem_singleton.mp h] at k; exact k
  | p :: q :: r, w, c, h, k => by
    rw [joinL_cons (by simp)]
    rcases List.mem_cons.mp h with rfl | h
    · exact List.mem_append_left _ k
    · exact List.mem_append_right _ (List.mem_append_right _ (mem_joinL s (q :: r) w c h k))
/-! ### good texts -/
structure TOk (a : List Nat) : Prop where
  code : ∀ c ∈ a, c < 128
  len : a.length ≤ 10000
  cnt : a.count 32 ≤ 40
theorem str_ok {a : List Nat} (h : ∀ c ∈ a, c < 128) : PyData.strOk (S a) = true := by
  show Array.all _ _ = true
  rw [Array.all_eq_true']
  intro c hc
  have := h c (by simpa using hc)
  exact decide_eq_true (by omega)
theorem sh_S {k : Nat} {a : List Nat} (h : ∀ c ∈ a, c < 128) : shK k (.str (S a)) := ⟨by simp [PyData.canLay0, str_ok h], by simp [PyData.depth]⟩
theorem sh_none {k : Nat} : shK k .none := ⟨by simp [PyData.canLay0], by simp [PyData.depth]⟩
def wds (a : List Nat) : List (List Nat) := TL.spl [32] 0 [] a
theorem wds_code {a w : List Nat} (h : ∀ c ∈ a, c < 128) (hw : w ∈ wds a) : ∀ c ∈ w, c < 128 := fun c hc => h c (by
  have := mem_joinL 32 (wds a) w c hw hc
  rw [wds, joinL_spl] at this; exact this)
theorem wds_join (a : List Nat) : TL.joinL [32] (wds a) = a := joinL_spl 32 a []
theorem wds_ne (a : List Nat) : wds a ≠ [] := spl_ne 32 a []
theorem wds_mu (a : List Nat) : mu (wds a) = a.length + 1 := by
  have := joinL_len 32 (wds a) (wds_ne a)
  rw [wds_join] at this; exact this.symm
theorem wds_off {a w : List Nat} (h : w ∈ wds a) : 32 ∉ w := spl_off 32 a [] (by simp) w h
theorem wds_cnt (a : List Nat) : (wds a).length = a.count 32 + 1 := by
  have := joinL_cnt 32 (wds a) (wds_ne a) fun w hw => wds_off hw
  rw [wds_join] at this; exact this.symm
theorem wds_of {ws : List (List Nat)} (h : ws ≠ []) (k : ∀ w ∈ ws, 32 ∉ w) : wds (TL.joinL [32] ws) = ws := TL.spl_join h k
abbrev sD (w : List Nat) : D := .str (S w)
theorem d_split {s : Nat} {a : List Nat} (hs : s < 256) (hl : a.length ≤ 100000) : dSplit (S a) (.str (S [s])) = some ((TL.spl [s] 0 [] a).map sD) := by
  have e := split_S (a := a) (b := [s]) (List.cons_ne_nil _ _) (by simp [hs])
  have hm : mu (TL.spl [s] 0 [] a) = a.length + 1 := by
    have := joinL_len s (TL.spl [s] 0 [] a) (spl_ne s a [])
    rw [joinL_spl] at this; exact this.symm
  have h2 := mu_len (TL.spl [s] 0 [] a)
  unfold dSplit
  dsimp only
  rw [e, if_pos ⟨by simp [Str.length], by rw [S_len]; omega, by rw [List.length_map]; omega⟩, List.map_map]
  rfl
theorem strs_of : ∀ ws : List (List Nat), strsOf (ws.map sD) = some (ws.map S)
  | [] => rfl
  | w :: ws => by
    rw [List.map_cons]
    show (strsOf (ws.map sD)).map _ = _
    rw [strs_of ws]; rfl
theorem d_join {s : Nat} {ws : List (List Nat)} (hl : mu ws ≤ 100000) : dJoin (S [s]) (.list (ws.map sD)) = some (.str (S (TL.joinL [s] ws))) := by
  have h2 : ∀ l : List (List Nat), (l.map (·.length)).sum + l.length = mu l := fun l => by
    induction l with
    | nil => rfl
    | cons w l ih => rw [mu_cons, List.map_cons, List.sum_cons, List.length_cons]; omega
  have := h2 ws
  unfold dJoin
  dsimp only
  rw [strs_of]
  show (if _ then _ else _) = _
  rw [if_pos (by rw [lens, List.length_map, show (S [s]).length = 1 from rfl, Nat.mul_one]; omega), join_S]
theorem sp_eq : (" " : Str) = S [32] := by kernel_rfl
theorem da_eq : ("-" : Str) = S [45] := by kernel_rfl
theorem eq_S {a b : List Nat} (ha : ∀ c ∈ a, c < 128) (hb : ∀ c ∈ b, c < 128) : dCmp .Eq (sD a) (sD b) = some (decide (a = b)) := by
  show (if shaped (sD a) && shaped (sD b) then some (PyData.eqv (sD a) (sD b)) else none) = _
  rw [sh_of (k := 1) (sh_S ha), sh_of (k := 1) (sh_S hb)]
  show some (PyData.eqv (sD a) (sD b)) = _
  rw [show PyData.eqv (sD a) (sD b) = (S a == S b) by simp only [PyData.eqv], S_beq_eq]
theorem ne_S {a b : List Nat} (ha : ∀ c ∈ a, c < 128) (hb : ∀ c ∈ b, c < 128) : dCmp .NotEq (sD a) (sD b) = some (!decide (a = b)) := by
  show (if shaped (sD a) && shaped (sD b) then some (!PyData.eqv (sD a) (sD b)) else none) = _
  rw [sh_of (k := 1) (sh_S ha), sh_of (k := 1) (sh_S hb)]
  show some (!PyData.eqv (sD a) (sD b)) = _
  rw [show PyData.eqv (sD a) (sD b) = (S a == S b) by simp only [PyData.eqv], S_beq_eq]
end K12

set_option maxRecDepth 100000
set_option maxHeartbeats 4000000
namespace K12
open PySem PySem.Spec PyProof.Rows L2 Rf SX
/-! ### figures -/
def fig : List Nat → D
  | [c] => if 48 ≤ c ∧ c ≤ 57 then .int ((c : Int) - 48) else .none
  | _ => .none
theorem fig_sh {k : Nat} (w : List Nat) : shK k (fig w) := by
  unfold fig
  split
  · split
    · exact sh_int _
    · exact sh_none
  · exact sh_none
theorem ten_eq : ("0123456789" : Str) = S [48, 49, 50, 51, 52, 53, 54, 55, 56, 57] := by kernel_rfl
theorem ten_cases {c : Nat} (h1 : 48 ≤ c) (h2 : c ≤ 57) : c = 48 ∨ c = 49 ∨ c = 50 ∨ c = 51 ∨ c = 52 ∨ c = 53 ∨ c = 54 ∨ c = 55 ∨ c = 56 ∨ c = 57 := by omega
theorem int_dig {c : Nat} (h1 : 48 ≤ c) (h2 : c ≤ 57) : dIntS [sD [c]] = some (.int ((c : Int) - 48)) := by
  rcases ten_cases h1 h2 with h | h | h | h | h | h | h | h | h | h <;> subst h <;> kernel_rfl
theorem v_figure_of {w : List Nat} (hl : w.length ≤ 100000) : r_figure_of [sD w] = .ret (fig w) := by
  refine runR' (ρ := [some (.dat (sD w))]) rfl (ev_seqR (ev_ret ?_))
  have e1 : sCall dLen (sCons (sVar 0) sNil) [some (.dat (sD w))] = .ok (.int w.length) [some (.dat (sD w))] := by
    refine ev_call (ds := [sD w]) rfl ?_
    show (if (S w).length ≤ 16777216 then some (PyData.int (S w).length) else none) = _
    rw [S_len, if_pos (by omega)]
  have e2 : s2 (bCmp .Eq) (sCall dLen (sCons (sVar 0) sNil)) (sCon (.int 1)) [some (.dat (sD w))] = .ok (.bool ((w.length : Int) == 1)) [some (.dat (sD w))] := by
    refine ev_s2 e1 rfl ?_
    show (dCmp .Eq (.int w.length) (.int 1)).map PyData.bool = _
    rw [eq_ii]; rfl
  match w with
  | [] => exact (ev_ite (ev_and e2)).trans rfl
  | [c] =>
    have e3 : s2 (bCmp .In) (sVar 0) (sCon (.str "0123456789")) [some (.dat (sD [c]))] = .ok (.bool (decide (c ∈ [48, 49, 50, 51, 52, 53, 54, 55, 56, 57]))) [some (.dat (sD [c]))] := by
      refine ev_s2 rfl rfl ?_
      show (some (!(Builtin.Str.occurrences "0123456789" (S [c]) 0 ("0123456789" : Str).length 1).isEmpty)).map PyData.bool = _
      rw [ten_eq, in_one]; rfl
    have e4 : sAnd (s2 (bCmp .Eq) (sCall dLen (sCons (sVar 0) sNil)) (sCon (.int 1))) (s2 (bCmp .In) (sVar 0) (sCon (.str "0123456789"))) [some (.dat (sD [c]))] = .ok (.bool (decide (c ∈ [48, 49, 50, 51, 52, 53, 54, 55, 56, 57]))) [some (.dat (sD [c]))] := by
      rw [ev_and e2]
      exact e3
    refine (ev_ite e4).trans ?_
    by_cases h : 48 ≤ c ∧ c ≤ 57
    · have hm : c ∈ [48, 49, 50, 51, 52, 53, 54, 55, 56, 57] := by simp; omega
      rw [if_pos (decide_eq_true hm)]
      show _ = O.ok (if 48 ≤ c ∧ c ≤ 57 then PyData.int ((c : Int) - 48) else .none) _
      rw [if_pos h]
      exact ev_call rfl (int_dig h.1 h.2)
    · have hm : ¬ c ∈ [48, 49, 50, 51, 52, 53, 54, 55, 56, 57] := by simp; omega
      rw [if_neg (by rw [decide_eq_false hm]; decide)]
      show _ = O.ok (if 48 ≤ c ∧ c ≤ 57 then PyData.int ((c : Int) - 48) else .none) _
      rw [if_neg h]; rfl
  | c :: d :: r =>
    have : (((c :: d :: r).length : Int) == 1) = false := by
      rw [beq_eq_false_iff_ne]; simp only [List.length_cons]; omega
    rw [this] at e2
    exact (ev_ite (ev_and e2)).trans rfl
/-! ### a web's text -/
def dg (k : Int) : Nat := 48 + k.toNat
theorem int_cases {k : Int} (h1 : 0 ≤ k) (h2 : k ≤ 9) : k = 0 ∨ k = 1 ∨ k = 2 ∨ k = 3 ∨ k = 4 ∨ k = 5 ∨ k = 6 ∨ k = 7 ∨ k = 8 ∨ k = 9 := by omega
theorem str_dig {k : Int} (h1 : 0 ≤ k) (h2 : k ≤ 9) : dStr [.int k] = some (sD [dg k]) := by
  rcases int_cases h1 h2 with h | h | h | h | h | h | h | h | h | h <;> subst h <;> kernel_rfl
theorem fig_dg {k : Int} (h1 : 0 ≤ k) (h2 : k ≤ 9) : fig [dg k] = .int k := by
  rcases int_cases h1 h2 with h | h | h | h | h | h | h | h | h | h <;> subst h <;> rfl
def tieT (t : Int × Int) : List Nat := [dg t.1, 45, dg t.2]
def txt (n : Int) (es : List (Int × Int)) : List Nat := TL.joinL [32] ([dg n] :: es.map tieT)
def Dg (es : List (Int × Int)) : Prop := ∀ t ∈ es, (0 ≤ t.1 ∧ t.1 ≤ 9) ∧ 0 ≤ t.2 ∧ t.2 ≤ 9
theorem GridOk.dg {n : Int} {es : List (Int × Int)} (g : GridOk n es) : Dg es := fun t ht => by
  have := g.ends t ht; have := g.hi; omega
theorem txt_mu (n : Int) (es : List (Int × Int)) : mu ([dg n] :: es.map tieT) = 2 + 4 * es.length := by
  rw [mu_cons]
  have : mu (es.map tieT) = 4 * es.length := by
    induction es with
    | nil => rfl
    | cons t es ih => rw [List.map_cons, mu_cons, ih, List.length_cons]; simp [tieT]; omega
  rw [this]; simp
theorem txt_wds {n : Int} {es : List (Int × Int)} (hn : 0 ≤ n ∧ n ≤ 9) (he : Dg es) : wds (txt n es) = [dg n] :: es.map tieT := by
  refine wds_of (by simp) fun w hw => ?_
  rcases List.mem_cons.mp hw with rfl | hw
  · simp only [dg, List.mem_singleton]; have := hn; omega
  · obtain ⟨t, ht, rfl⟩ := List.mem_map.mp hw
    simp only [tieT, dg, List.mem_cons, List.not_mem_nil, or_false]; omega
theorem d_addS {a b : List Nat} (h : a.length + b.length ≤ 1000) : dBin .Add (sD a) (sD b) = some (sD (a ++ b)) := by
  show (if (S a).length + (S b).length ≤ 16777216 then some (PyData.str (S a ++ S b)) else none) = _
  rw [S_len, S_len, if_pos (by omega), S_cat]
theorem cat_tie {t : Int × Int} (h : (0 ≤ t.1 ∧ t.1 ≤ 9) ∧ 0 ≤ t.2 ∧ t.2 ≤ 9) {fa fb : Rho → O D} {ρ : Rho} (ha : fa ρ = .ok (.int t.1) ρ) (hb : fb ρ = .ok (.int t.2) ρ) :
    s2 (dBin .Add) (s2 (dBin .Add) (sCall dStr (sCons fa sNil)) (sCon (.str "-"))) (sCall dStr (sCons fb sNil)) ρ = .ok (sD (tieT t)) ρ := by
  have e1 : sCall dStr (sCons fa sNil) ρ = .ok (sD [dg t.1]) ρ := ev_call (ev_cons ha rfl) (str_dig h.1.1 h.1.2)
  have e2 : sCall dStr (sCons fb sNil) ρ = .ok (sD [dg t.2]) ρ := ev_call (ev_cons hb rfl) (str_dig h.2.1 h.2.2)
  have e3 : sCon (.str "-") ρ = .ok (sD [45]) ρ := by rw [da_eq]; rfl
  exact ev_s2 (ev_s2 e1 e3 (d_addS (by simp))) e2 (d_addS (by simp))
theorem join_fin {n : Int} {es : List (Int × Int)} {ρ : Rho} {fl : Rho → O (List D)} (hn : 0 ≤ n ∧ n ≤ 9) (hl : es.length ≤ 1000) (h0 : s2 dIx (sVar 0) (sCon (.int 0)) ρ = .ok (.int n) ρ) (hf : fl ρ = .ok ((es.map tieT).map sD) ρ) :
    sM1 dJoin (sCon (.str " ")) (s2 (dBin .Add) (sFrz (sLst (sCons (sCall dStr (sCons (s2 dIx (sVar 0) (sCon (.int 0))) sNil)) sNil))) (sFrz fl)) ρ = .ok (sD (txt n es)) ρ := by
  have e1 : sCall dStr (sCons (s2 dIx (sVar 0) (sCon (.int 0))) sNil) ρ = .ok (sD [dg n]) ρ := ev_call (ev_cons h0 rfl) (str_dig hn.1 hn.2)
  have e2 : sFrz (sLst (sCons (sCall dStr (sCons (s2 dIx (sVar 0) (sCon (.int 0))) sNil)) sNil)) ρ = .ok (.list [sD [dg n]]) ρ := by
    have e3 := ev_cons e1 (show sNil ρ = .ok [] ρ from rfl)
    refine ev_frz ?_
    unfold sLst
    rw [e3]; rfl
  have e4 := ev_s2 (g := dBin .Add) (z := .list (([dg n] :: es.map tieT).map sD)) e2 (ev_frz hf) (by
    show (if ([sD [dg n]] : List D).length + ((es.map tieT).map sD).length ≤ 16777216 then some (PyData.list _) else none) = _
    rw [if_pos (by rw [List.length_map, List.length_map]; simp; omega)]; rfl)
  unfold sM1
  rw [show sCon (.str " ") ρ = .ok (.str " ") ρ from rfl]
  show (O.bind (s2 (dBin .Add) (sFrz (sLst (sCons (sCall dStr (sCons (s2 dIx (sVar 0) (sCon (.int 0))) sNil)) sNil))) (sFrz fl) ρ) fun y ρ2 => lift (dJoin " " y) ρ2) = _
  rw [e4]
  show lift (dJoin " " (.list (([dg n] :: es.map tieT).map sD))) ρ = _
  rw [sp_eq, d_join (by rw [txt_mu]; omega)]; rfl
theorem v_text_of {n : Int} {es : List (Int × Int)} (hn : 0 ≤ n ∧ n ≤ 9) (he : Dg es) (hl : es.length ≤ 1000) : r_text_of [gD n es] = .ret (sD (txt n es)) := by
  refine runR' (ρ := [some (.dat (gD n es)), none, none]) rfl (ev_seqR (ev_ret (join_fin hn hl rfl ?_)))
  refine Eq.trans (slc_pure (ρ0 := [some (.dat (gD n es)), none, none]) (xs := es.map tD) (fun _ => true) (fun d => sD (tieT (unD d))) rfl rfl rfl rfl ?_) ?_
  · intro x hx
    obtain ⟨t, ht, rfl⟩ := List.mem_map.mp hx
    exact ⟨[some (.dat (gD n es)), some (.dat (.int t.1)), some (.dat (.int t.2))], rfl, rfl, fun _ => cat_tie (he t ht) rfl rfl, rfl⟩
  · rw [filter_map_eq _ _ (fun _ => true) _ fun _ _ => rfl, List.filter_eq_self.mpr (fun _ _ => rfl), List.map_map, List.map_map]; rfl
theorem v_law_text {n : Int} {es : List (Int × Int)} (hn : 0 ≤ n ∧ n ≤ 9) (he : Dg es) (hl : es.length ≤ 1000) : r_text [gD n es] = .ret (sD (txt n es)) := by
  refine runR' (ρ := [some (.dat (gD n es)), none]) rfl (ev_seqR (ev_ret (join_fin hn hl rfl ?_)))
  refine Eq.trans (slc_pure (ρ0 := [some (.dat (gD n es)), none]) (xs := es.map tD) (fun _ => true) (fun d => sD (tieT (unD d))) rfl rfl rfl rfl ?_) ?_
  · intro x hx
    obtain ⟨t, ht, rfl⟩ := List.mem_map.mp hx
    exact ⟨[some (.dat (gD n es)), some (.dat (tD t))], rfl, rfl, fun _ => cat_tie (he t ht) rfl rfl, rfl⟩
  · rw [filter_map_eq _ _ (fun _ => true) _ fun _ _ => rfl, List.filter_eq_self.mpr (fun _ _ => rfl), List.map_map, List.map_map]; rfl
end K12

set_option maxRecDepth 100000
set_option maxHeartbeats 4000000
namespace K12
open PySem PySem.Spec PyProof.Rows L2 Rf SX
/-! ### web_of -/
def partD (w : List Nat) : D := .tuple ((TL.spl [45] 0 [] w).map fig)
def foundD (a : List Nat) : D := .tuple [fig ((wds a).headD []), .tuple ((wds a).tail.map partD)]
def wR (z : D) (x1 x2 x3 x4 : Option D) : Rho := [some (.dat z), optD x1, optD x2, optD x3, optD x4, none]
theorem m1_split {s : Nat} {a : List Nat} {fa : Rho → O D} {t : Str} {ρ : Rho} (hs : s < 256) (ht : t = S [s]) (hl : a.length ≤ 100000) (h : fa ρ = .ok (sD a) ρ) : sFrz (sM1 dSplit fa (sCon (.str t))) ρ = .ok (.list ((TL.spl [s] 0 [] a).map sD)) ρ := by
  refine ev_frz ?_
  unfold sM1
  rw [h]
  show lift (dSplit (S a) (.str t)) ρ = _
  rw [ht, d_split hs hl]; rfl
theorem part_val {z : D} {x1 x2 x3 : Option D} {w : List Nat} (hw : w.length ≤ 100000) :
    sCall dTuple (sCons (sFrz (sLc (.nm 5) [5] (sItems (sFrz (sM1 dSplit (sVar 4) (sCon (.str "-"))))) sYes (sCallD (mD r_figure_of) (sCons (sVar 5) sNil)))) sNil) (wR z x1 x2 x3 (some (sD w))) = .ok (partD w) (wR z x1 x2 x3 (some (sD w))) := by
  refine ev_call (ds := [.list ((TL.spl [45] 0 [] w).map fig)]) (ev_cons (ev_frz ?_) rfl) rfl
  have hm : mu (TL.spl [45] 0 [] w) = w.length + 1 := by
    have := joinL_len 45 (TL.spl [45] 0 [] w) (spl_ne 45 w [])
    rw [joinL_spl] at this; exact this.symm
  refine Eq.trans (slc_pure (ρ0 := wR z x1 x2 x3 (some (sD w))) (xs := (TL.spl [45] 0 [] w).map sD) (fun _ => true) (fun d => match d with | .str z => fig (TL.tl z) | _ => .none) ?_ rfl rfl rfl ?_) ?_
  · unfold sItems
    rw [m1_split (fa := sVar 4) (a := w) (ρ := wR z x1 x2 x3 (some (sD w))) (by decide) da_eq hw rfl]; rfl
  · intro x hx
    obtain ⟨p, hp, rfl⟩ := List.mem_map.mp hx
    have := mu_mem hp
    exact ⟨[some (.dat z), optD x1, optD x2, optD x3, some (.dat (sD w)), some (.dat (sD p))], rfl, rfl, fun _ => ev_callD (ds := [sD p]) rfl (v_figure_of (by omega)), rfl⟩
  · rw [filter_map_eq _ _ (fun _ => true) _ fun _ _ => rfl, List.filter_eq_self.mpr (fun _ _ => rfl), List.map_map]; rfl
theorem found_sh {a : List Nat} : shK 60 (foundD a) := sh_up (k := 60) (j := 4) (sh_tup fun x hx => by
  simp only [List.mem_cons, List.not_mem_nil, or_false] at hx
  rcases hx with rfl | rfl
  · exact fig_sh _
  · refine sh_tup (k := 2) fun x hx => ?_
    obtain ⟨w, _, rfl⟩ := List.mem_map.mp hx
    refine sh_tup (k := 1) fun x hx => ?_
    obtain ⟨p, _, rfl⟩ := List.mem_map.mp hx
    exact fig_sh _) (by decide)
def woT : Rho → OS := (sSeq (sIf (sOr (sNot (sCallD (mD r_is_web_so) (sCons (sVar 3) sNil))) (s2 (bCmp .NotEq) (sCallD (mD r_text_of) (sCons (sVar 3) sNil)) (sVar 0))) (sSeq (sRaise "InvalidText") sSkip) sSkip) (sSeq (sRet (sVar 3)) sSkip))
theorem at_head (w : List Nat) (ws : List (List Nat)) : dIx (.list ((w :: ws).map sD)) (.int 0) = some (sD w) := atI_nat (xs := (w :: ws).map sD) (j := 0) (v := sD w) rfl
theorem wo_head {a : List Nat} (h : TOk a) : fn_web_of r_is_web_so r_figure_of r_text_of (start0 6 ([sD a].map .dat)) = woT (wR (sD a) (some (.list ((wds a).map sD))) (some (.list ((wds a).tail.map partD))) (some (foundD a)) none) := by
  have hl := h.len
  have e1 : sIf (sNot (sIsi (sVar 0) "str")) (sSeq (sRaise "InvalidText") sSkip) sSkip (wR (sD a) none none none none) = .nx (wR (sD a) none none none none) := rfl
  have e2 : sAsg (.nm 1) (sFrz (sM1 dSplit (sVar 0) (sCon (.str " ")))) (wR (sD a) none none none none) = .nx (wR (sD a) (some (.list ((wds a).map sD))) none none none) :=
    ev_asg (m1_split (a := a) (by decide) sp_eq (by omega) rfl) rfl
  have e3 : sAsg (.nm 2) (sFrz (sLc (.nm 4) [4] (sItems (sSl (sVar 1) (sPart (some (sCon (.int 1)))) (sPart none))) sYes (sCall dTuple (sCons (sFrz (sLc (.nm 5) [5] (sItems (sFrz (sM1 dSplit (sVar 4) (sCon (.str "-"))))) sYes (sCallD (mD r_figure_of) (sCons (sVar 5) sNil)))) sNil)))) (wR (sD a) (some (.list ((wds a).map sD))) none none none) = .nx (wR (sD a) (some (.list ((wds a).map sD))) (some (.list ((wds a).tail.map partD))) none none) := by
    refine ev_asg (ρ1 := wR (sD a) (some (.list ((wds a).map sD))) none none none) (d := .list ((wds a).tail.map partD)) (ev_frz ?_) rfl
    refine Eq.trans (slc_pure (ρ0 := wR (sD a) (some (.list ((wds a).map sD))) none none none) (xs := (wds a).tail.map sD) (fun _ => true) (fun d => match d with | .str z => partD (TL.tl z) | _ => .none) ?_ rfl rfl rfl ?_) ?_
    · show O.ok (cutL ((wds a).map sD) (some 1) none) _ = _
      rw [cut1, List.map_tail]
    · intro x hx
      obtain ⟨w, hw, rfl⟩ := List.mem_map.mp hx
      have := mu_mem (List.mem_of_mem_tail hw)
      rw [wds_mu] at this
      exact ⟨wR (sD a) (some (.list ((wds a).map sD))) none none (some (sD w)), rfl, rfl, fun _ => part_val (by omega), rfl⟩
    · rw [filter_map_eq _ _ (fun _ => true) _ fun _ _ => rfl, List.filter_eq_self.mpr (fun _ _ => rfl), List.map_map]; rfl
  have e4 : sAsg (.nm 3) (sTup (sCons (sCallD (mD r_figure_of) (sCons (s2 dIx (sVar 1) (sCon (.int 0))) sNil)) (sCons (sCall dTuple (sCons (sVar 2) sNil)) sNil))) (wR (sD a) (some (.list ((wds a).map sD))) (some (.list ((wds a).tail.map partD))) none none) = .nx (wR (sD a) (some (.list ((wds a).map sD))) (some (.list ((wds a).tail.map partD))) (some (foundD a)) none) := by
    obtain ⟨w0, ws, ew⟩ := List.exists_cons_of_ne_nil (wds_ne a)
    have hm := mu_mem (show w0 ∈ wds a by rw [ew]; exact List.mem_cons_self)
    rw [wds_mu] at hm
    unfold foundD
    rw [ew]
    refine ev_asg (ρ1 := wR (sD a) (some (.list ((w0 :: ws).map sD))) (some (.list (ws.map partD))) none none) (d := .tuple [fig w0, .tuple (ws.map partD)]) (ev_tup (ev_cons (ρ1 := wR (sD a) (some (.list ((w0 :: ws).map sD))) (some (.list (ws.map partD))) none none) (ev_callD (ds := [sD w0]) (ev_cons (ev_s2 (x := .list ((w0 :: ws).map sD)) (y := .int 0) rfl rfl (at_head w0 ws)) rfl) (v_figure_of (by omega))) (ev_cons (ρ1 := wR (sD a) (some (.list ((w0 :: ws).map sD))) (some (.list (ws.map partD))) none none) (ev_call (ρ1 := wR (sD a) (some (.list ((w0 :: ws).map sD))) (some (.list (ws.map partD))) none none) (ds := [.list (ws.map partD)]) rfl rfl) rfl)) (by simp)) rfl
  show fn_web_of r_is_web_so r_figure_of r_text_of (wR (sD a) none none none none) = _
  unfold fn_web_of
  rw [ev_seq e1, ev_seq e2, ev_seq e3, ev_seq e4]; rfl
theorem wo_bad {a : List Nat} (h : TOk a) (hb : isWebD (foundD a) = false) : r_web_of [sD a] = .exc (.own "InvalidText") := by
  refine runX (ρ := wR (sD a) (some (.list ((wds a).map sD))) (some (.list ((wds a).tail.map partD))) (some (foundD a)) none) rfl ((wo_head h).trans ?_)
  have e1 : sCallD (mD r_is_web_so) (sCons (sVar 3) sNil) (wR (sD a) (some (.list ((wds a).map sD))) (some (.list ((wds a).tail.map partD))) (some (foundD a)) none) = .ok (.bool false) (wR (sD a) (some (.list ((wds a).map sD))) (some (.list ((wds a).tail.map partD))) (some (foundD a)) none) := callB rfl (by rw [v_is_web_so _ found_sh, hb])
  exact ifY ((ev_or (g := s2 (bCmp .NotEq) (sCallD (mD r_text_of) (sCons (sVar 3) sNil)) (sVar 0)) (ev_not e1)).trans rfl) rfl
theorem wo_web {a : List Nat} {n : Int} {es : List (Int × Int)} (h : TOk a) (g : GridOk n es) (hb : foundD a = gD n es) : r_web_of [sD a] = if txt n es = a then .ret (gD n es) else .exc (.own "InvalidText") := by
  have hn : 0 ≤ n ∧ n ≤ 9 := ⟨by have := g.lo; omega, by have := g.hi; omega⟩
  have hc : ∀ c ∈ txt n es, c < 128 := fun c hc => by
    rcases joinL_mem 32 _ c hc with rfl | ⟨w, h1, h2⟩
    · decide
    · rcases List.mem_cons.mp h1 with rfl | h1
      · rw [List.mem_singleton.mp h2]; unfold dg; omega
      · obtain ⟨t, ht, rfl⟩ := List.mem_map.mp h1
        have := g.dg t ht
        simp only [tieT, dg, List.mem_cons, List.not_mem_nil, or_false] at h2; omega
  generalize hx1 : (PyData.list ((wds a).map sD)) = x1
  generalize hx2 : (PyData.list ((wds a).tail.map partD)) = x2
  have hd := wo_head h
  rw [hx1, hx2, hb] at hd
  have e1 : sCallD (mD r_is_web_so) (sCons (sVar 3) sNil) (wR (sD a) (some x1) (some x2) (some (gD n es)) none) = .ok (.bool true) (wR (sD a) (some x1) (some x2) (some (gD n es)) none) := callB rfl (by rw [v_is_web_so _ (hb ▸ found_sh), g.web])
  have e2 : sCallD (mD r_text_of) (sCons (sVar 3) sNil) (wR (sD a) (some x1) (some x2) (some (gD n es)) none) = .ok (sD (txt n es)) (wR (sD a) (some x1) (some x2) (some (gD n es)) none) := ev_callD (ds := [gD n es]) rfl (v_text_of hn g.dg (by have := es_len g; omega))
  have e3 : s2 (bCmp .NotEq) (sCallD (mD r_text_of) (sCons (sVar 3) sNil)) (sVar 0) (wR (sD a) (some x1) (some x2) (some (gD n es)) none) = .ok (.bool (!decide (txt n es = a))) (wR (sD a) (some x1) (some x2) (some (gD n es)) none) := by
    refine ev_s2 e2 rfl ?_
    show (dCmp .NotEq (sD (txt n es)) (sD a)).map PyData.bool = _
    rw [ne_S hc h.code]; rfl
  have e4 := (ev_or (g := s2 (bCmp .NotEq) (sCallD (mD r_text_of) (sCons (sVar 3) sNil)) (sVar 0)) (ev_not e1)).trans ((if_neg (by decide)).trans e3)
  by_cases q : txt n es = a
  · rw [if_pos q]
    rw [decide_eq_true q] at e4
    exact runR' rfl (hd.trans (ifN e4 rfl))
  · rw [if_neg q]
    rw [decide_eq_false q] at e4
    exact runX rfl (hd.trans (ifY e4 rfl))
end K12

set_option maxRecDepth 100000
set_option maxHeartbeats 4000000
namespace K12
open PySem PySem.Spec PyProof.Rows L2 Rf SX
theorem part_tie {t : Int × Int} (h : (0 ≤ t.1 ∧ t.1 ≤ 9) ∧ 0 ≤ t.2 ∧ t.2 ≤ 9) : partD (tieT t) = tD t := by
  unfold partD tieT
  rw [spl_miss1 _ _ (by unfold dg; omega), spl_hit1, spl_miss1 _ _ (by unfold dg; omega), TL.spl_nil]
  show PyData.tuple [fig [dg t.1], fig [dg t.2]] = _
  rw [fig_dg h.1.1 h.1.2, fig_dg h.2.1 h.2.2]; rfl
theorem found_txt {n : Int} {es : List (Int × Int)} (hn : 0 ≤ n ∧ n ≤ 9) (he : Dg es) : foundD (txt n es) = gD n es := by
  unfold foundD
  rw [txt_wds hn he]
  show PyData.tuple [fig [dg n], .tuple ((es.map tieT).map partD)] = _
  rw [fig_dg hn.1 hn.2, List.map_map, List.map_congr_left (f := partD ∘ tieT) (g := tD) fun t ht => part_tie (he t ht)]; rfl
theorem GridOk.nine {n : Int} {es : List (Int × Int)} (g : GridOk n es) : 0 ≤ n ∧ n ≤ 9 := ⟨by have := g.lo; omega, by have := g.hi; omega⟩
theorem txt_code {n : Int} {es : List (Int × Int)} (g : GridOk n es) : ∀ c ∈ txt n es, c < 128 := fun c hc => by
  have hn := g.nine
  rcases joinL_mem 32 _ c hc with rfl | ⟨w, h1, h2⟩
  · decide
  · rcases List.mem_cons.mp h1 with rfl | h1
    · rw [List.mem_singleton.mp h2]; unfold dg; omega
    · obtain ⟨t, ht, rfl⟩ := List.mem_map.mp h1
      have := g.dg t ht
      simp only [tieT, dg, List.mem_cons, List.not_mem_nil, or_false] at h2; omega
theorem txt_len {n : Int} {es : List (Int × Int)} (g : GridOk n es) : (txt n es).length ≤ 113 := by
  have h1 := joinL_len 32 ([dg n] :: es.map tieT) (by simp)
  rw [txt_mu] at h1
  have := es_len g
  show (TL.joinL [32] ([dg n] :: es.map tieT)).length ≤ 113
  omega
theorem txt_cnt {n : Int} {es : List (Int × Int)} (g : GridOk n es) : (txt n es).count 32 ≤ 28 := by
  have h1 := wds_cnt (txt n es)
  rw [txt_wds g.nine g.dg] at h1
  have := es_len g
  simp at h1; omega
theorem txt_ok {n : Int} {es : List (Int × Int)} (g : GridOk n es) : TOk (txt n es) := ⟨txt_code g, by have := txt_len g; omega, by have := txt_cnt g; omega⟩
theorem txt_inj {n m : Int} {es fs : List (Int × Int)} (g : GridOk n es) (hm : 0 ≤ m ∧ m ≤ 9) (hf : Dg fs) (h : txt n es = txt m fs) : n = m ∧ es = fs := by
  have h1 := found_txt g.nine g.dg
  rw [h, found_txt hm hf] at h1
  unfold gD esD at h1
  injection h1 with h1
  injection h1 with h2 h3
  injection h2 with h2
  injection h3 with h3 _
  injection h3 with h3
  refine ⟨h2.symm, ?_⟩
  have := congrArg (List.map unD) h3
  rw [List.map_map, List.map_map, show (unD ∘ tD) = id from rfl, List.map_id, List.map_id] at this
  exact this.symm
theorem wo_yes {n : Int} {es : List (Int × Int)} (g : GridOk n es) : r_web_of [sD (txt n es)] = .ret (gD n es) := by
  rw [wo_web (txt_ok g) g (found_txt g.nine g.dg), if_pos rfl]
theorem wo_no {a : List Nat} (h : TOk a) (k : ∀ n es, GridOk n es → txt n es ≠ a) : r_web_of [sD a] = .exc (.own "InvalidText") := by
  cases hb : isWebD (foundD a) with
  | false => exact wo_bad h hb
  | true =>
    have hb2 := hb
    unfold foundD at hb2
    generalize hf : fig ((wds a).headD []) = f at hb2
    match f, hb2 with
    | .int n, hb2 =>
      obtain ⟨es, h1, g⟩ := web_grid hb2
      have e : foundD a = gD n es := by unfold foundD; rw [hf, h1]; rfl
      rw [wo_web h g e, if_neg (k n es g)]
theorem v_read_yes {n : Int} {es : List (Int × Int)} (g : GridOk n es) : r_read_web [sD (txt n es)] = .ret (gD n es) :=
  runR' (ρ := [some (.dat (sD (txt n es)))]) rfl (ev_seqR (ev_ret (ev_callD (ds := [sD (txt n es)]) rfl (wo_yes g))))
theorem v_read_no {a : List Nat} (h : TOk a) (k : ∀ n es, GridOk n es → txt n es ≠ a) : r_read_web [sD a] = .exc (.own "InvalidText") := by
  have e1 : sCallD (mD r_web_of) (sCons (sVar 0) sNil) [some (.dat (sD a))] = .ex (.own "InvalidText") [some (.dat (sD a))] := ev_callX (ds := [sD a]) rfl (wo_no h k)
  refine runX (ρ := [some (.dat (sD a))]) rfl (ev_seqX ?_)
  unfold sRet
  show (sCallD (mD r_web_of) (sCons (sVar 0) sNil) [some (.dat (sD a))]).run _ = _
  rw [e1]; rfl
theorem v_web_text {n : Int} {es : List (Int × Int)} (g : GridOk n es) : r_web_text [gD n es] = .ret (sD (txt n es)) :=
  runR' (ρ := [some (.dat (gD n es))]) rfl (go (ds := [gD n es]) rfl (v_need_web g) (ev_seqR (ev_ret (ev_callD (ds := [gD n es]) rfl (v_text_of g.nine g.dg (by have := es_len g; omega))))))
end K12

set_option maxRecDepth 100000
set_option maxHeartbeats 4000000
namespace K12
open PySem PySem.Spec PyProof.Rows L2 Rf SX
/-! ### the law's own reading -/
theorem goN {t : Tg} {f : Rho → OS} {ρ ρ2 ρ3 : Rho} {a : D} {as : List D} {r : OS} (hb : Rf.bindT t a ρ = some ρ2) (hf : f ρ2 = .nx ρ3) (k : forGo t f as ρ3 = r) : forGo t f (a :: as) ρ = r := by
  unfold forGo; rw [hb]; dsimp only; rw [hf]; exact k
def pw : List Nat → Option (Int × Int)
  | [c, d, e] => if d = 45 ∧ (48 ≤ c ∧ c ≤ 55) ∧ 48 ≤ e ∧ e ≤ 55 then some ((c : Int) - 48, (e : Int) - 48) else none
  | _ => none
def pws : List (List Nat) → Option (List (Int × Int))
  | [] => some []
  | w :: ws => match pw w, pws ws with
    | some t, some ts => some (t :: ts)
    | _, _ => none
theorem pw_tie {w : List Nat} {t : Int × Int} (h : pw w = some t) : w = tieT t ∧ (0 ≤ t.1 ∧ t.1 ≤ 7) ∧ 0 ≤ t.2 ∧ t.2 ≤ 7 := by
  unfold pw at h
  split at h
  · rename_i c d e
    split at h
    · rename_i q
      cases h
      refine ⟨?_, by simp only; omega, by simp only; omega⟩
      unfold tieT dg
      simp only
      rw [q.1, show 48 + ((c : Int) - 48).toNat = c by omega, show 48 + ((e : Int) - 48).toNat = e by omega]
    · cases h
  · cases h
theorem pw_tieT {t : Int × Int} (h : (0 ≤ t.1 ∧ t.1 ≤ 7) ∧ 0 ≤ t.2 ∧ t.2 ≤ 7) : pw (tieT t) = some t := by
  show (if 45 = 45 ∧ (48 ≤ dg t.1 ∧ dg t.1 ≤ 55) ∧ 48 ≤ dg t.2 ∧ dg t.2 ≤ 55 then some (((dg t.1 : Nat) : Int) - 48, ((dg t.2 : Nat) : Int) - 48) else none) = _
  unfold dg
  rw [if_pos (by omega)]
  obtain ⟨a, b⟩ := t
  simp only at h ⊢
  rw [show ((48 + a.toNat : Nat) : Int) - 48 = a by omega, show ((48 + b.toNat : Nat) : Int) - 48 = b by omega]
theorem pws_eq : ∀ {ws : List (List Nat)} {es : List (Int × Int)}, pws ws = some es → ws = es.map tieT ∧ ∀ t ∈ es, (0 ≤ t.1 ∧ t.1 ≤ 7) ∧ 0 ≤ t.2 ∧ t.2 ≤ 7
  | [], es, h => by cases h; exact ⟨rfl, fun t ht => nomatch ht⟩
  | w :: ws, es, h => by
    unfold pws at h
    split at h
    · rename_i t ts h1 h2
      cases h
      obtain ⟨e1, b1⟩ := pw_tie h1
      obtain ⟨e2, b2⟩ := pws_eq h2
      refine ⟨by rw [List.map_cons, ← e1, ← e2], fun u hu => ?_⟩
      rcases List.mem_cons.mp hu with rfl | hu
      · exact b1
      · exact b2 u hu
    · cases h
theorem pws_tieT : ∀ {es : List (Int × Int)}, (∀ t ∈ es, (0 ≤ t.1 ∧ t.1 ≤ 7) ∧ 0 ≤ t.2 ∧ t.2 ≤ 7) → pws (es.map tieT) = some es
  | [], _ => rfl
  | t :: es, h => by
    rw [List.map_cons]
    unfold pws
    rw [pw_tieT (h t List.mem_cons_self), pws_tieT fun u hu => h u (List.mem_cons_of_mem _ hu)]
def uR (z : D) (x1 x2 : Option D) (p : Option C) (x4 x5 : Option D) : Rho := [some (.dat z), optD x1, optD x2, p, optD x4, optD x5, none, none]
abbrev oP (l : List D) : Option C := some (.own l)
theorem eight_eq : ("01234567" : Str) = S [48, 49, 50, 51, 52, 53, 54, 55] := by kernel_rfl
theorem notin_eight (c : Nat) : dCmp .NotIn (sD [c]) (.str "01234567") = some (!decide (c ∈ [48, 49, 50, 51, 52, 53, 54, 55])) := by
  show some (!(!(Builtin.Str.occurrences "01234567" (S [c]) 0 ("01234567" : Str).length 1).isEmpty)) = _
  rw [eight_eq, in_one]
def wC : Rho → O D := (sOr (s2 (bCmp .NotEq) (sCall dLen (sCons (sVar 4) sNil)) (sCon (.int 3))) (sOr (s2 (bCmp .NotEq) (s2 dIx (sVar 4) (sCon (.int 1))) (sCon (.str "-"))) (sOr (s2 (bCmp .NotIn) (s2 dIx (sVar 4) (sCon (.int 0))) (sCon (.str "01234567"))) (s2 (bCmp .NotIn) (s2 dIx (sVar 4) (sCon (.int 2))) (sCon (.str "01234567"))))))
def wB : Rho → OS := (sSeq (sIf wC (sSeq (sRet (sCon .none)) sSkip) sSkip) (sSeq (sApp 3 (sTup (sCons (sCall dIntS (sCons (s2 dIx (sVar 4) (sCon (.int 0))) sNil)) (sCons (sCall dIntS (sCons (s2 dIx (sVar 4) (sCon (.int 2))) sNil)) sNil)))) sSkip))
theorem ix_S {w : List Nat} {c : Nat} (i : Nat) (h : w[i]? = some c) (hl : w.length ≤ 100000) : dIx (sD w) (.int i) = some (sD [c]) := by
  show (if (S w).length ≤ 16777216 then (atI (S w).cps.toList i).map (fun c => PyData.str ⟨#[c]⟩) else none) = _
  rw [S_len, if_pos (by omega)]
  have : atI (S w).cps.toList i = some c := atI_nat (xs := w) (j := i) (v := c) h
  rw [this]; rfl
theorem wC_val {z : D} {x1 x2 x5 : Option D} {p : Option C} {w : List Nat} (hc : ∀ c ∈ w, c < 128) (hl : w.length ≤ 100000) : wC (uR z x1 x2 p (some (sD w)) x5) = .ok (.bool (pw w).isNone) (uR z x1 x2 p (some (sD w)) x5) := by
  have e1 : sCall dLen (sCons (sVar 4) sNil) (uR z x1 x2 p (some (sD w)) x5) = .ok (.int w.length) (uR z x1 x2 p (some (sD w)) x5) := by
    refine ev_call (ds := [sD w]) rfl ?_
    show (if (S w).length ≤ 16777216 then some (PyData.int (S w).length) else none) = _
    rw [S_len, if_pos (by omega)]
  have e2 : s2 (bCmp .NotEq) (sCall dLen (sCons (sVar 4) sNil)) (sCon (.int 3)) (uR z x1 x2 p (some (sD w)) x5) = .ok (.bool (!((w.length : Int) == 3))) (uR z x1 x2 p (some (sD w)) x5) := by
    refine ev_s2 e1 rfl ?_
    show (dCmp .NotEq (.int w.length) (.int 3)).map PyData.bool = _
    rw [ne_ii]; rfl
  have bad : w.length ≠ 3 → wC (uR z x1 x2 p (some (sD w)) x5) = .ok (.bool (pw w).isNone) (uR z x1 x2 p (some (sD w)) x5) := fun h => by
    have : ((w.length : Int) == 3) = false := by rw [beq_eq_false_iff_ne]; omega
    rw [this] at e2
    have hp : pw w = none := by
      unfold pw
      split
      · simp at h
      · rfl
    rw [hp]
    exact (ev_or e2).trans (if_pos rfl)
  by_cases h3 : w.length = 3
  · match w, h3 with
    | [c, d, e], h3 =>
      have hd : d < 128 := hc d (by simp)
      have k0 := ix_S (w := [c, d, e]) (c := c) 0 rfl hl
      have k1 := ix_S (w := [c, d, e]) (c := d) 1 rfl hl
      have k2 := ix_S (w := [c, d, e]) (c := e) 2 rfl hl
      have f1 : s2 (bCmp .NotEq) (s2 dIx (sVar 4) (sCon (.int 1))) (sCon (.str "-")) (uR z x1 x2 p (some (sD [c, d, e])) x5) = .ok (.bool (!decide (d = 45))) (uR z x1 x2 p (some (sD [c, d, e])) x5) := by
        refine ev_s2 (ev_s2 rfl rfl k1) rfl ?_
        show (dCmp .NotEq (sD [d]) (.str "-")).map PyData.bool = _
        rw [da_eq, ne_S (by simp [hd]) (by simp)]
        simp
      have f2 : s2 (bCmp .NotIn) (s2 dIx (sVar 4) (sCon (.int 0))) (sCon (.str "01234567")) (uR z x1 x2 p (some (sD [c, d, e])) x5) = .ok (.bool (!decide (c ∈ [48, 49, 50, 51, 52, 53, 54, 55]))) (uR z x1 x2 p (some (sD [c, d, e])) x5) := by
        refine ev_s2 (ev_s2 rfl rfl k0) rfl ?_
        show (dCmp .NotIn (sD [c]) (.str "01234567")).map PyData.bool = _
        rw [notin_eight]; rfl
      have f3 : s2 (bCmp .NotIn) (s2 dIx (sVar 4) (sCon (.int 2))) (sCon (.str "01234567")) (uR z x1 x2 p (some (sD [c, d, e])) x5) = .ok (.bool (!decide (e ∈ [48, 49, 50, 51, 52, 53, 54, 55]))) (uR z x1 x2 p (some (sD [c, d, e])) x5) := by
        refine ev_s2 (ev_s2 rfl rfl k2) rfl ?_
        show (dCmp .NotIn (sD [e]) (.str "01234567")).map PyData.bool = _
        rw [notin_eight]; rfl
      refine (ev_or e2).trans ((if_neg (by rw [h3]; decide)).trans ((ev_or f1).trans ?_))
      have mem8 : ∀ x : Nat, x ∈ [48, 49, 50, 51, 52, 53, 54, 55] ↔ 48 ≤ x ∧ x ≤ 55 := fun x => by
        simp only [List.mem_cons, List.not_mem_nil, or_false]; omega
      have pY : (d = 45 ∧ (48 ≤ c ∧ c ≤ 55) ∧ 48 ≤ e ∧ e ≤ 55) → (pw [c, d, e]).isNone = false := fun q => by
        show Option.isNone (if d = 45 ∧ (48 ≤ c ∧ c ≤ 55) ∧ 48 ≤ e ∧ e ≤ 55 then some ((c : Int) - 48, (e : Int) - 48) else none) = _
        rw [if_pos q]; rfl
      have pN : ¬ (d = 45 ∧ (48 ≤ c ∧ c ≤ 55) ∧ 48 ≤ e ∧ e ≤ 55) → (pw [c, d, e]).isNone = true := fun q => by
        show Option.isNone (if d = 45 ∧ (48 ≤ c ∧ c ≤ 55) ∧ 48 ≤ e ∧ e ≤ 55 then some ((c : Int) - 48, (e : Int) - 48) else none) = _
        rw [if_neg q]; rfl
      by_cases q1 : d = 45
      · rw [decide_eq_true q1]
        refine (if_neg (by decide)).trans ((ev_or f2).trans ?_)
        by_cases q2 : 48 ≤ c ∧ c ≤ 55
        · rw [decide_eq_true ((mem8 c).mpr q2)]
          refine (if_neg (by decide)).trans (f3.trans ?_)
          by_cases q3 : 48 ≤ e ∧ e ≤ 55
          · rw [decide_eq_true ((mem8 e).mpr q3), pY ⟨q1, q2, q3⟩]; rfl
          · rw [decide_eq_false (mt (mem8 e).mp q3), pN (fun q => q3 q.2.2)]; rfl
        · rw [decide_eq_false (mt (mem8 c).mp q2), pN (fun q => q2 q.2.1)]; exact if_pos rfl
      · rw [decide_eq_false q1, pN (fun q => q1 q.1)]; exact if_pos rfl
  · exact bad h3
theorem wB_none {z : D} {x1 x2 x5 : Option D} {l : List D} {w : List Nat} (hc : ∀ c ∈ w, c < 128) (hl : w.length ≤ 100000) (h : pw w = none) : wB (uR z x1 x2 (oP l) (some (sD w)) x5) = .ret .none (uR z x1 x2 (oP l) (some (sD w)) x5) := by
  have e := wC_val (z := z) (x1 := x1) (x2 := x2) (x5 := x5) (p := oP l) hc hl
  rw [h] at e
  exact ifY e rfl
theorem wB_some {z : D} {x1 x2 x5 : Option D} {l : List D} {w : List Nat} {t : Int × Int} (hc : ∀ c ∈ w, c < 128) (hl : w.length ≤ 100000) (hn : l.length ≤ 100000) (h : pw w = some t) : wB (uR z x1 x2 (oP l) (some (sD w)) x5) = .nx (uR z x1 x2 (oP (l ++ [tD t])) (some (sD w)) x5) := by
  have e := wC_val (z := z) (x1 := x1) (x2 := x2) (x5 := x5) (p := oP l) hc hl
  rw [h] at e
  refine ifN e (skip ?_)
  obtain ⟨e1, b1, b2⟩ := pw_tie h
  have k0 := ix_S (w := w) (c := dg t.1) 0 (by rw [e1]; rfl) hl
  have k2 := ix_S (w := w) (c := dg t.2) 2 (by rw [e1]; rfl) hl
  have i0 : dIntS [sD [dg t.1]] = some (.int t.1) := by
    rw [int_dig (by unfold dg; omega) (by unfold dg; omega)]; unfold dg; rw [show ((48 + t.1.toNat : Nat) : Int) - 48 = t.1 by omega]
  have i2 : dIntS [sD [dg t.2]] = some (.int t.2) := by
    rw [int_dig (by unfold dg; omega) (by unfold dg; omega)]; unfold dg; rw [show ((48 + t.2.toNat : Nat) : Int) - 48 = t.2 by omega]
  have f0 : sCall dIntS (sCons (s2 dIx (sVar 4) (sCon (.int 0))) sNil) (uR z x1 x2 (oP l) (some (sD w)) x5) = .ok (.int t.1) (uR z x1 x2 (oP l) (some (sD w)) x5) := ev_call (ev_cons (ev_s2 rfl rfl k0) rfl) i0
  have f2 : sCall dIntS (sCons (s2 dIx (sVar 4) (sCon (.int 2))) sNil) (uR z x1 x2 (oP l) (some (sD w)) x5) = .ok (.int t.2) (uR z x1 x2 (oP l) (some (sD w)) x5) := ev_call (ev_cons (ev_s2 rfl rfl k2) rfl) i2
  have f4 := ev_tup (ev_cons f0 (ev_cons f2 (show sNil (uR z x1 x2 (oP l) (some (sD w)) x5) = .ok [] _ from rfl))) (by simp)
  have f5 : sApp 3 (sTup (sCons (sCall dIntS (sCons (s2 dIx (sVar 4) (sCon (.int 0))) sNil)) (sCons (sCall dIntS (sCons (s2 dIx (sVar 4) (sCon (.int 2))) sNil)) sNil))) (uR z x1 x2 (oP l) (some (sD w)) x5) = .nx (uR z x1 x2 (oP (l ++ [tD t])) (some (sD w)) x5) := by
    unfold sApp
    rw [f4]
    show (if l.length < 16777216 then OS.nx _ else .no) = _
    rw [if_pos (by omega)]; rfl
  rw [ev_seq f5]; rfl
theorem bind4 {z d : D} {x1 x2 x4 x5 : Option D} {l : List D} : Rf.bindT (.nm 4) d (uR z x1 x2 (oP l) x4 x5) = some (uR z x1 x2 (oP l) (some d) x5) := by cases x4 <;> rfl
theorem loop_val {z : D} {x1 x2 x5 : Option D} : ∀ (ws : List (List Nat)) (l : List D) (x4 : Option D) (es : List (Int × Int)), (∀ w ∈ ws, (∀ c ∈ w, c < 128) ∧ w.length ≤ 100000) → l.length + ws.length ≤ 100000 → pws ws = some es →
    ∃ x4', forGo (.nm 4) wB (ws.map sD) (uR z x1 x2 (oP l) x4 x5) = .nx (uR z x1 x2 (oP (l ++ es.map tD)) x4' x5)
  | [], l, x4, es, _, _, hq => ⟨x4, by
    cases hq
    show OS.nx _ = OS.nx (uR z x1 x2 (oP (l ++ [])) x4 x5)
    rw [List.append_nil]⟩
  | w :: ws, l, x4, es, h, hn, hq => by
    rw [List.length_cons] at hn
    obtain ⟨h1, h2⟩ := h w List.mem_cons_self
    unfold pws at hq
    split at hq
    · rename_i t ts hp hr
      cases hq
      obtain ⟨x4', e⟩ := loop_val (z := z) (x1 := x1) (x2 := x2) (x5 := x5) ws (l ++ [tD t]) (some (sD w)) ts (fun v hv => h v (List.mem_cons_of_mem _ hv)) (by rw [List.length_append, List.length_singleton]; omega) hr
      have s1 : forGo (.nm 4) wB ((w :: ws).map sD) (uR z x1 x2 (oP l) x4 x5) = forGo (.nm 4) wB (ws.map sD) (uR z x1 x2 (oP (l ++ [tD t])) (some (sD w)) x5) := goN (ρ2 := uR z x1 x2 (oP l) (some (sD w)) x5) bind4 (wB_some h1 h2 (by omega) hp) rfl
      refine ⟨x4', ?_⟩
      rw [s1, e, List.append_assoc]; rfl
    · cases hq
theorem loop_none {z : D} {x1 x2 x5 : Option D} : ∀ (ws : List (List Nat)) (l : List D) (x4 : Option D), (∀ w ∈ ws, (∀ c ∈ w, c < 128) ∧ w.length ≤ 100000) → l.length + ws.length ≤ 100000 → pws ws = none →
    ∃ ρ', forGo (.nm 4) wB (ws.map sD) (uR z x1 x2 (oP l) x4 x5) = .ret .none ρ'
  | [], l, x4, _, _, hq => by cases hq
  | w :: ws, l, x4, h, hn, hq => by
    rw [List.length_cons] at hn
    obtain ⟨h1, h2⟩ := h w List.mem_cons_self
    cases hp : pw w with
    | none =>
      refine ⟨uR z x1 x2 (oP l) (some (sD w)) x5, ?_⟩
      show (match Rf.bindT (.nm 4) (sD w) (uR z x1 x2 (oP l) x4 x5) with | none => OS.no | some ρ1 => (wB ρ1).bind (forGo (.nm 4) wB (ws.map sD))) = _
      rw [bind4]
      show (wB (uR z x1 x2 (oP l) (some (sD w)) x5)).bind _ = _
      rw [wB_none h1 h2 hp]; rfl
    | some t =>
      have hq2 : pws ws = none := by
        unfold pws at hq
        rw [hp] at hq
        cases hr : pws ws with
        | none => rfl
        | some es => rw [hr] at hq; cases hq
      obtain ⟨ρ', e⟩ := loop_none (z := z) (x1 := x1) (x2 := x2) (x5 := x5) ws (l ++ [tD t]) (some (sD w)) (fun v hv => h v (List.mem_cons_of_mem _ hv)) (by rw [List.length_append, List.length_singleton]; omega) hq2
      exact ⟨ρ', (goN (ρ2 := uR z x1 x2 (oP l) (some (sD w)) x5) bind4 (wB_some h1 h2 (by omega) hp) rfl).trans e⟩
end K12

set_option maxRecDepth 100000
set_option maxHeartbeats 4000000
namespace K12
open PySem PySem.Spec PyProof.Rows L2 Rf SX
/-! ### equal lists -/
theorem eqv_map {α : Type} [DecidableEq α] {f : α → D} (h : ∀ a b, PyData.eqv (f a) (f b) = decide (a = b)) : ∀ l m : List α, PyData.eqvAll (l.map f) (m.map f) = decide (l = m)
  | [], [] => rfl
  | [], _ :: _ => by simp [PyData.eqvAll]
  | _ :: _, [] => by simp [PyData.eqvAll]
  | a :: l, b :: m => by
    rw [List.map_cons, List.map_cons]
    unfold PyData.eqvAll
    rw [h, eqv_map h l m, Bool.eq_iff_iff]; simp
theorem eqv_lst {α : Type} [DecidableEq α] {f : α → D} (h : ∀ a b, PyData.eqv (f a) (f b) = decide (a = b)) (l m : List α) : PyData.eqv (.list (l.map f)) (.list (m.map f)) = decide (l = m) := by
  rw [← eqv_map h l m]; simp only [PyData.eqv]
theorem eqv_int (i j : Int) : PyData.eqv (.int i) (.int j) = decide (i = j) := by
  simp only [PyData.eqv]
  by_cases h : i = j <;> simp [h]
/-! ### sorted(set(ties)) -/
theorem set_ties {es : List (Int × Int)} (hl : es.length < 64) (hd : ∀ t ∈ es, (0 ≤ t.1 ∧ t.1 ≤ 7) ∧ 0 ≤ t.2 ∧ t.2 ≤ 7) :
    ∃ W : List (Int × Int), dSetS [.list (es.map tD)] = some (W.map tD) ∧ (es = W ↔ asc es = true) ∧ ∀ t ∈ W, t ∈ es := by
  have hok : tupsOk (es.map tD) = true := by
    cases es with
    | nil => rfl
    | cons d l =>
      show (decide (1 ≤ 2) && ((d :: l).map tD).all (okTup 2)) = true
      rw [Bool.and_eq_true]
      refine ⟨rfl, List.all_eq_true.mpr fun x hx => ?_⟩
      obtain ⟨t, ht, rfl⟩ := List.mem_map.mp hx
      have := hd t ht
      show (2 == 2 && [t.1, t.2].all fun i => decide (0 ≤ i ∧ i < BB)) = true
      rw [Bool.and_eq_true]
      refine ⟨rfl, List.all_eq_true.mpr fun i hi => ?_⟩
      simp only [List.mem_cons, List.not_mem_nil, or_false] at hi
      refine decide_eq_true ⟨by omega, ?_⟩
      show i < 18446744073709551616
      omega
  have hi := inj_tups hok
  have e1 : ((setD (es.map tD)).map unD).map tD = setD (es.map tD) := by
    rw [List.map_map]
    have : ∀ x ∈ setD (es.map tD), (tD ∘ unD) x = x := fun x hx => by
      obtain ⟨t, _, rfl⟩ := List.mem_map.mp (setD_sub _ x hx)
      rfl
    rw [List.map_congr_left this, List.map_id'']
    intro x; rfl
  have un : ∀ {l m : List (Int × Int)}, l.map tD = m.map tD → l = m := fun {l m} h => by
    have := congrArg (List.map unD) h
    rw [List.map_map, List.map_map, show (unD ∘ tD) = id from rfl, List.map_id, List.map_id] at this
    exact this
  have hBB : (BB : Int) = 18446744073709551616 := rfl
  refine ⟨(setD (es.map tD)).map unD, ?_, ⟨fun h => ?_, fun h => ?_⟩, fun t ht => ?_⟩
  · rw [e1]; exact if_pos (.inr ⟨hok, by rw [List.length_map]; exact hl⟩)
  · have h1 := setD_str (es.map tD)
    rw [← e1, ← h] at h1
    rw [asc_pair]
    refine List.Pairwise.imp_of_mem (fun {s t} hs ht k => ?_) (List.pairwise_map.mp h1)
    rw [tie_rank, tie_rank, hBB] at k
    have ds := hd s hs
    have dt := hd t ht
    rw [ltT_iff]; omega
  · refine un (Eq.trans (Eq.symm ?_) e1.symm)
    refine str_uniq (fun a ha b hb => hi a (setD_sub _ a ha) b (setD_sub _ b hb)) (setD_str _) (List.pairwise_map.mpr ?_) fun x => setD_mem hi
    refine List.Pairwise.imp_of_mem (fun {s t} hs ht k => ?_) (asc_pair.mp h)
    rw [tie_rank, tie_rank, hBB]
    have ds := hd s hs
    have dt := hd t ht
    rw [ltT_iff] at k; omega
  · obtain ⟨x, hx, rfl⟩ := List.mem_map.mp ht
    obtain ⟨u, hu, rfl⟩ := List.mem_map.mp (setD_sub _ x hx)
    exact hu
/-! ### what due asks of the ties -/
abbrev dP (l : List D) : Option C := some (.dat (.list l))
theorem slc_cong {t : Tg} {vs : List Nat} {fi : Rho → O (List D)} {fc fe : Rho → O D} {ρ ρ2 : Rho} (h : fi ρ = fi ρ2) : sLc t vs fi fc fe ρ = sLc t vs fi fc fe ρ2 := by unfold sLc; rw [h]
def bad (n : Int) (t : Int × Int) : Bool := decide (t.1 ≥ t.2) || decide (t.2 ≥ n)
def dC1 : Rho → O D := (s2 (bCmp .NotEq) (sFrz (sLc (.nm 6) [6] (sItems (sVar 3)) (sOr (s2 (bCmp .GtE) (s2 dIx (sVar 6) (sCon (.int 0))) (s2 dIx (sVar 6) (sCon (.int 1)))) (s2 (bCmp .GtE) (s2 dIx (sVar 6) (sCon (.int 1))) (sVar 2))) (sVar 6))) (sFrz (sLst sNil)))
def dC2 : Rho → O D := (s2 (bCmp .NotEq) (sVar 3) (sFrz (sSetS (sCons (sVar 3) sNil))))
theorem dC1_val {z : D} {x1 x4 x5 : Option D} {n : Int} {es : List (Int × Int)} : dC1 (uR z x1 (some (.int n)) (oP (es.map tD)) x4 x5) = .ok (.bool (!(es.filter (bad n)).isEmpty)) (uR z x1 (some (.int n)) (dP (es.map tD)) x4 x5) := by
  have e1 : sLc (.nm 6) [6] (sItems (sVar 3)) (sOr (s2 (bCmp .GtE) (s2 dIx (sVar 6) (sCon (.int 0))) (s2 dIx (sVar 6) (sCon (.int 1)))) (s2 (bCmp .GtE) (s2 dIx (sVar 6) (sCon (.int 1))) (sVar 2))) (sVar 6) (uR z x1 (some (.int n)) (dP (es.map tD)) x4 x5) = .ok ((es.filter (bad n)).map tD) (uR z x1 (some (.int n)) (dP (es.map tD)) x4 x5) := by
    refine Eq.trans (slc_pure (ρ0 := uR z x1 (some (.int n)) (dP (es.map tD)) x4 x5) (xs := es.map tD) (fun d => bad n (unD d)) id rfl rfl rfl rfl ?_) ?_
    · intro x hx
      obtain ⟨t, ht, rfl⟩ := List.mem_map.mp hx
      refine ⟨[some (.dat z), optD x1, some (.dat (.int n)), dP (es.map tD), optD x4, optD x5, some (.dat (tD t)), none], rfl, ?_, fun _ => rfl, rfl⟩
      have k1 : s2 (bCmp .GtE) (s2 dIx (sVar 6) (sCon (.int 0))) (s2 dIx (sVar 6) (sCon (.int 1))) [some (.dat z), optD x1, some (.dat (.int n)), dP (es.map tD), optD x4, optD x5, some (.dat (tD t)), none] = .ok (.bool (decide (t.2 ≤ t.1))) [some (.dat z), optD x1, some (.dat (.int n)), dP (es.map tD), optD x4, optD x5, some (.dat (tD t)), none] := rfl
      have k2 : s2 (bCmp .GtE) (s2 dIx (sVar 6) (sCon (.int 1))) (sVar 2) [some (.dat z), optD x1, some (.dat (.int n)), dP (es.map tD), optD x4, optD x5, some (.dat (tD t)), none] = .ok (.bool (decide (n ≤ t.2))) [some (.dat z), optD x1, some (.dat (.int n)), dP (es.map tD), optD x4, optD x5, some (.dat (tD t)), none] := rfl
      rw [ev_or k1, k2, un_tD]
      unfold bad
      by_cases q : t.2 ≤ t.1
      · rw [decide_eq_true q, if_pos rfl]; rfl
      · rw [decide_eq_false q, if_neg (by decide)]; rfl
    · rw [filter_map_eq tD _ (bad n) _ fun _ _ => rfl, List.map_id]
  refine ev_s2 (ev_frz ((slc_cong (ρ2 := uR z x1 (some (.int n)) (dP (es.map tD)) x4 x5) rfl).trans e1)) rfl ?_
  show (dCmp .NotEq (.list ((es.filter (bad n)).map tD)) (.list [])).map PyData.bool = _
  rw [ne_nil fun x hx => sh_up (sh_tDs _ x hx) (by decide), List.isEmpty_map]; rfl
theorem dC2_val {z : D} {x1 x2 x4 x5 : Option D} {es : List (Int × Int)} (hl : es.length < 64) (hd : ∀ t ∈ es, (0 ≤ t.1 ∧ t.1 ≤ 7) ∧ 0 ≤ t.2 ∧ t.2 ≤ 7) : dC2 (uR z x1 x2 (dP (es.map tD)) x4 x5) = .ok (.bool (!asc es)) (uR z x1 x2 (dP (es.map tD)) x4 x5) := by
  obtain ⟨W, e1, e2, e3⟩ := set_ties hl hd
  have k1 : sVar 3 (uR z x1 x2 (dP (es.map tD)) x4 x5) = .ok (.list (es.map tD)) (uR z x1 x2 (dP (es.map tD)) x4 x5) := rfl
  have k2 : sFrz (sSetS (sCons (sVar 3) sNil)) (uR z x1 x2 (dP (es.map tD)) x4 x5) = .ok (.list (W.map tD)) (uR z x1 x2 (dP (es.map tD)) x4 x5) := by
    refine ev_frz ?_
    show lift (dSetS [.list (es.map tD)]) _ = _
    rw [e1]; rfl
  refine ev_s2 k1 k2 ?_
  show (if shaped (.list (es.map tD)) && shaped (.list (W.map tD)) then some (!PyData.eqv (.list (es.map tD)) (.list (W.map tD))) else none).map PyData.bool = _
  rw [sh_of (sh_list (sh_tDs es)), sh_of (sh_list (sh_tDs W)), eqv_lst eqv_tD]
  show some (PyData.bool (!decide (es = W))) = _
  have : decide (es = W) = asc es := by
    by_cases q : es = W
    · rw [decide_eq_true q, e2.mp q]
    · rw [decide_eq_false q]
      cases hx : asc es with
      | false => rfl
      | true => exact absurd (e2.mpr hx) q
  rw [this]
def dA5 : Rho → OS := (sAsg (.nm 5) (sFrz (sLc (.nm 7) [7] (sRng (sCons (sVar 2) sNil)) sYes (sCall dLen (sCons (sFrz (sLc (.nm 6) [6] (sItems (sVar 3)) (s2 (bCmp .In) (sVar 7) (sVar 6)) (sVar 6))) sNil)))))
def cnts (n : Int) (es : List (Int × Int)) : List Int := (rng n).map fun p => (deg es p : Int)
theorem dA5_val {z : D} {x1 x4 : Option D} {n : Int} {es : List (Int × Int)} (hn : Small n) : dA5 (uR z x1 (some (.int n)) (dP (es.map tD)) x4 none) = .nx (uR z x1 (some (.int n)) (dP (es.map tD)) x4 (some (.list ((cnts n es).map .int)))) := by
  have inner : ∀ p : Int, sLc (.nm 6) [6] (sItems (sVar 3)) (s2 (bCmp .In) (sVar 7) (sVar 6)) (sVar 6) [some (.dat z), optD x1, some (.dat (.int n)), dP (es.map tD), optD x4, none, none, some (.dat (.int p))] = .ok ((es.filter (has p)).map tD) [some (.dat z), optD x1, some (.dat (.int n)), dP (es.map tD), optD x4, none, none, some (.dat (.int p))] := fun p => by
    refine Eq.trans (slc_pure (ρ0 := [some (.dat z), optD x1, some (.dat (.int n)), dP (es.map tD), optD x4, none, none, some (.dat (.int p))]) (xs := es.map tD) (fun d => (dCmp .In (.int p) d).getD false) id rfl rfl rfl rfl ?_) ?_
    rotate_left
    · rw [List.map_id, filter_map_eq tD _ (has p) _ fun t _ => by rw [in_tD]; rfl]
    · intro x hx
      obtain ⟨t, _, rfl⟩ := List.mem_map.mp hx
      refine ⟨[some (.dat z), optD x1, some (.dat (.int n)), dP (es.map tD), optD x4, none, some (.dat (tD t)), some (.dat (.int p))], rfl, ?_, fun _ => rfl, rfl⟩
      show (match (dCmp .In (.int p) (tD t)).map PyData.bool with | some z => O.ok z _ | none => O.no) = _
      rw [in_tD]; rfl
  have key := slc_pure (t := .nm 7) (vs := [7]) (fi := sRng (sCons (sVar 2) sNil)) (fc := sYes) (fe := sCall dLen (sCons (sFrz (sLc (.nm 6) [6] (sItems (sVar 3)) (s2 (bCmp .In) (sVar 7) (sVar 6)) (sVar 6))) sNil)) (ρ := uR z x1 (some (.int n)) (dP (es.map tD)) x4 none) (ρ0 := uR z x1 (some (.int n)) (dP (es.map tD)) x4 none) (xs := (rng n).map PyData.int)
    (fun _ => true) (fun d => match d with | .int p => .int (deg es p) | _ => .none) (by
      rw [← rngD]
      show (if -(2 ^ 62) ≤ n ∧ n ≤ 16777216 then _ else _) = _
      rw [if_pos (by have := hn.1; have := hn.2; omega)]) rfl rfl rfl (fun x hx => by
      obtain ⟨p, _, rfl⟩ := List.mem_map.mp hx
      refine ⟨[some (.dat z), optD x1, some (.dat (.int n)), dP (es.map tD), optD x4, none, none, some (.dat (.int p))], rfl, rfl, fun _ => ?_, rfl⟩
      refine ev_call (ev_cons (ev_frz (inner p)) rfl) ?_
      show some (PyData.int (((es.filter (has p)).map tD).length : Nat)) = _
      rw [List.length_map]; rfl)
  refine ev_asg (ev_frz key) ?_
  rw [List.filter_eq_self.mpr fun _ _ => rfl, List.map_map]
  unfold cnts
  rw [List.map_map]; rfl
end K12

set_option maxRecDepth 100000
set_option maxHeartbeats 4000000
namespace K12
open PySem PySem.Spec PyProof.Rows L2 Rf SX
/-! ### due -/
def dA0 : Rho → OS := (sAsg (.nm 1) (sFrz (sM1 dSplit (sVar 0) (sCon (.str " ")))))
def dA1 : Rho → OS := (sIf (s2 (bCmp .NotIn) (s2 dIx (sVar 1) (sCon (.int 0))) (sTup (sCons (sCon (.str "3")) (sCons (sCon (.str "4")) (sCons (sCon (.str "5")) (sCons (sCon (.str "6")) (sCons (sCon (.str "7")) (sCons (sCon (.str "8")) sNil)))))))) (sSeq (sRet (sCon .none)) sSkip) sSkip)
def dA2 : Rho → OS := (sParO 2 3 (sCall dIntS (sCons (s2 dIx (sVar 1) (sCon (.int 0))) sNil)) (sLst sNil))
def dA3 : Rho → OS := (sFor (.nm 4) (sItems (sSl (sVar 1) (sPart (some (sCon (.int 1)))) (sPart none))) wB)
def dA4 : Rho → OS := (sIf (sOr dC1 dC2) (sSeq (sRet (sCon .none)) sSkip) sSkip)
def dE : Rho → O D := (sIte (sAnd (s2 (bCmp .Gt) (s2 dIx (sVar 5) (sCon (.int 0))) (sCon (.int 0))) (s2 (bCmp .Eq) (sVar 5) (sFrz (sRep (sCons (s2 dIx (sVar 5) (sCon (.int 0))) sNil) (sVar 2))))) (sTup (sCons (sVar 2) (sCons (sCall dTuple (sCons (sVar 3) sNil)) sNil))) (sCon .none))
theorem due_split : fn__law_due = sSeq dA0 (sSeq dA1 (sSeq dA2 (sSeq dA3 (sSeq dA4 (sSeq dA5 (sSeq (sRet dE) sSkip)))))) := rfl
def six : List (List Nat) := [[51], [52], [53], [54], [55], [56]]
theorem six_eq : sTup (sCons (sCon (.str "3")) (sCons (sCon (.str "4")) (sCons (sCon (.str "5")) (sCons (sCon (.str "6")) (sCons (sCon (.str "7")) (sCons (sCon (.str "8")) sNil)))))) = fun ρ => .ok (.tuple (six.map sD)) ρ := by kernel_rfl
theorem eqv_S (a b : List Nat) : PyData.eqv (sD a) (sD b) = decide (a = b) := by
  rw [show PyData.eqv (sD a) (sD b) = (S a == S b) by simp only [PyData.eqv], S_beq_eq]
theorem sh_six : ∀ x ∈ six.map sD, shK 1 x := fun x hx => by
  obtain ⟨w, hw, rfl⟩ := List.mem_map.mp hx
  refine sh_S fun c hc => ?_
  simp only [six, List.mem_cons, List.not_mem_nil, or_false] at hw
  rcases hw with rfl | rfl | rfl | rfl | rfl | rfl <;> rw [List.mem_singleton.mp hc] <;> decide
theorem notin_six {w : List Nat} (h : ∀ c ∈ w, c < 128) : dCmp .NotIn (sD w) (.tuple (six.map sD)) = some (!decide (w ∈ six)) := by
  show (if shaped (sD w) && shaped (.tuple (six.map sD)) then some (!(six.map sD).any fun z => PyData.eqv z (sD w)) else none) = _
  rw [sh_of (k := 1) (sh_S h), sh_of (sh_tup sh_six)]
  have : ∀ l : List (List Nat), ((l.map sD).any fun z => PyData.eqv z (sD w)) = decide (w ∈ l) := fun l => by
    induction l with
    | nil => rfl
    | cons v l ih =>
      rw [List.map_cons, List.any_cons, ih, eqv_S, Bool.eq_iff_iff, Bool.or_eq_true, decide_eq_true_iff, decide_eq_true_iff, decide_eq_true_iff, List.mem_cons]
      exact or_congr eq_comm Iff.rfl
  rw [this]; rfl
theorem cnts_head {n : Int} (h : 0 < n) (es : List (Int × Int)) : dIx (.list ((cnts n es).map PyData.int)) (.int 0) = some (.int (deg es 0)) := by
  refine atI_nat (xs := (cnts n es).map PyData.int) (j := 0) (v := .int (deg es 0)) ?_
  obtain ⟨k, hk⟩ : ∃ k, n.toNat = k + 1 := ⟨n.toNat - 1, by omega⟩
  unfold cnts rng
  rw [hk, List.range_succ_eq_map]; rfl
theorem cnts_even {n : Int} {es : List (Int × Int)} : (cnts n es = List.replicate n.toNat (deg es 0 : Int)) ↔ ∀ p ∈ rng n, deg es p = deg es 0 := by
  unfold cnts
  rw [← rng_length n]
  constructor
  · intro h p hp
    have : (deg es p : Int) ∈ (rng n).map fun p => (deg es p : Int) := List.mem_map.mpr ⟨p, hp, rfl⟩
    rw [h] at this
    have := List.eq_of_mem_replicate this
    omega
  · intro h
    rw [List.map_congr_left (g := fun _ => (deg es 0 : Int)) fun p hp => by rw [h p hp], List.map_const']
theorem rep_one {α : Type} (k : Nat) (x : α) : (List.replicate k [x]).flatten = List.replicate k x := by
  induction k with
  | zero => rfl
  | succ k ih => rw [List.replicate_succ, List.flatten_cons, ih]; rfl
theorem dE_val {z : D} {x1 x4 : Option D} {n : Int} {es : List (Int × Int)} (hn : Small n) (h0 : 0 < n) : dE (uR z x1 (some (.int n)) (dP (es.map tD)) x4 (some (.list ((cnts n es).map PyData.int)))) = .ok (if even n es = true then gD n es else .none) (uR z x1 (some (.int n)) (dP (es.map tD)) x4 (some (.list ((cnts n es).map PyData.int)))) := by
  generalize hρ : uR z x1 (some (.int n)) (dP (es.map tD)) x4 (some (.list ((cnts n es).map PyData.int))) = ρ
  have v2 : sVar 2 ρ = .ok (.int n) ρ := by rw [← hρ]; rfl
  have v3 : sVar 3 ρ = .ok (.list (es.map tD)) ρ := by rw [← hρ]; rfl
  have v5 : sVar 5 ρ = .ok (.list ((cnts n es).map PyData.int)) ρ := by rw [← hρ]; rfl
  have k0 : s2 dIx (sVar 5) (sCon (.int 0)) ρ = .ok (.int (deg es 0)) ρ := ev_s2 v5 rfl (cnts_head h0 es)
  have k1 : s2 (bCmp .Gt) (s2 dIx (sVar 5) (sCon (.int 0))) (sCon (.int 0)) ρ = .ok (.bool (decide (0 < deg es 0))) ρ := by
    refine ev_s2 k0 rfl ?_
    show (dCmp .Gt (.int (deg es 0)) (.int 0)).map PyData.bool = _
    rw [gt_ii]
    show some (PyData.bool (decide ((0 : Int) < (deg es 0 : Nat)))) = _
    rw [show decide ((0 : Int) < (deg es 0 : Nat)) = decide (0 < deg es 0) from decide_eq_decide.mpr (by omega)]
  have k2 : sFrz (sRep (sCons (s2 dIx (sVar 5) (sCon (.int 0))) sNil) (sVar 2)) ρ = .ok (.list ((List.replicate n.toNat (deg es 0 : Int)).map PyData.int)) ρ := by
    refine ev_frz ?_
    unfold sRep
    rw [ev_cons k0 (show sNil ρ = .ok [] ρ from rfl)]
    show (if ([PyData.int (deg es 0)] : List D).length ≤ 1000 then (sVar 2 ρ).bind _ else O.no) = _
    rw [if_pos (by simp), v2]
    show (if -(2 ^ 63) ≤ n ∧ n < 2 ^ 63 ∧ ([PyData.int (deg es 0)] : List D).length * n.toNat ≤ 16777216 then O.ok (List.replicate n.toNat [PyData.int (deg es 0)]).flatten ρ else .no) = _
    rw [if_pos (by have := hn.1; have := hn.2; simp; omega), rep_one, List.map_replicate]
  have k3 : s2 (bCmp .Eq) (sVar 5) (sFrz (sRep (sCons (s2 dIx (sVar 5) (sCon (.int 0))) sNil) (sVar 2))) ρ = .ok (.bool (decide (cnts n es = List.replicate n.toNat (deg es 0 : Int)))) ρ := by
    refine ev_s2 v5 k2 ?_
    show (if shaped (.list ((cnts n es).map PyData.int)) && shaped (.list ((List.replicate n.toNat (deg es 0 : Int)).map PyData.int)) then some (PyData.eqv (.list ((cnts n es).map PyData.int)) (.list ((List.replicate n.toNat (deg es 0 : Int)).map PyData.int))) else none).map PyData.bool = _
    rw [sh_of (sh_list (k := 1) (sh_ints _)), sh_of (sh_list (k := 1) (sh_ints _)), eqv_lst eqv_int]; rfl
  have k4 : sAnd (s2 (bCmp .Gt) (s2 dIx (sVar 5) (sCon (.int 0))) (sCon (.int 0))) (s2 (bCmp .Eq) (sVar 5) (sFrz (sRep (sCons (s2 dIx (sVar 5) (sCon (.int 0))) sNil) (sVar 2)))) ρ = .ok (.bool (even n es)) ρ := by
    rw [ev_and k1]
    unfold even
    by_cases q : 0 < deg es 0
    · rw [decide_eq_true q, if_pos rfl, k3, Bool.true_and]
      refine congrArg (fun b => O.ok (PyData.bool b) ρ) ?_
      rw [Bool.eq_iff_iff, decide_eq_true_iff, cnts_even, List.all_eq_true]
      simp
    · rw [decide_eq_false q, if_neg (by decide)]; rfl
  have k5 : sTup (sCons (sVar 2) (sCons (sCall dTuple (sCons (sVar 3) sNil)) sNil)) ρ = .ok (gD n es) ρ :=
    ev_tup (ev_cons v2 (ev_cons (ev_call (ds := [.list (es.map tD)]) (ev_cons v3 rfl) rfl) (show sNil ρ = .ok [] ρ from rfl))) (by simp)
  unfold dE
  rw [ev_ite k4]
  by_cases q : even n es = true
  · rw [if_pos q, if_pos q, k5]
  · rw [if_neg q, if_neg q]; rfl
theorem six_int {w : List Nat} (h : w ∈ six) : ∃ n : Int, 3 ≤ n ∧ n ≤ 8 ∧ w = [dg n] := by
  simp only [six, List.mem_cons, List.not_mem_nil, or_false] at h
  rcases h with rfl | rfl | rfl | rfl | rfl | rfl
  · exact ⟨3, by decide, by decide, rfl⟩
  · exact ⟨4, by decide, by decide, rfl⟩
  · exact ⟨5, by decide, by decide, rfl⟩
  · exact ⟨6, by decide, by decide, rfl⟩
  · exact ⟨7, by decide, by decide, rfl⟩
  · exact ⟨8, by decide, by decide, rfl⟩
theorem int_six {n : Int} (h1 : 3 ≤ n) (h2 : n ≤ 8) : [dg n] ∈ six := by
  have : n = 3 ∨ n = 4 ∨ n = 5 ∨ n = 6 ∨ n = 7 ∨ n = 8 := by omega
  rcases this with h | h | h | h | h | h <;> subst h <;> decide
theorem v_due {a : List Nat} (h : TOk a) : ∃ d, r_due [sD a] = .ret d ∧ ((d = .none ∧ ∀ n es, GridOk n es → txt n es ≠ a) ∨ ∃ n es, d = gD n es ∧ GridOk n es ∧ txt n es = a) := by
  obtain ⟨w0, ws, ew⟩ := List.exists_cons_of_ne_nil (wds_ne a)
  have hc : ∀ w ∈ wds a, (∀ c ∈ w, c < 128) ∧ w.length ≤ 100000 := fun w hw => by
    refine ⟨wds_code h.code hw, ?_⟩
    have := mu_mem hw
    rw [wds_mu] at this
    have := h.len; omega
  have hlen : ws.length ≤ 40 := by
    have := wds_cnt a
    rw [ew, List.length_cons] at this
    have := h.cnt; omega
  have hj := wds_join a
  rw [ew] at hc hj
  have s0 : dA0 (uR (sD a) none none none none none) = .nx (uR (sD a) (some (.list ((w0 :: ws).map sD))) none none none none) := by
    have := m1_split (fa := sVar 0) (a := a) (s := 32) (t := " ") (ρ := uR (sD a) none none none none none) (by decide) sp_eq (by have := h.len; omega) rfl
    rw [show TL.spl [32] 0 [] a = w0 :: ws from ew] at this
    exact ev_asg this rfl
  have ix0 : ∀ x2 p x4 x5, s2 dIx (sVar 1) (sCon (.int 0)) (uR (sD a) (some (.list ((w0 :: ws).map sD))) x2 p x4 x5) = .ok (sD w0) (uR (sD a) (some (.list ((w0 :: ws).map sD))) x2 p x4 x5) := fun x2 p x4 x5 => ev_s2 rfl rfl (at_head w0 ws)
  have s1 : s2 (bCmp .NotIn) (s2 dIx (sVar 1) (sCon (.int 0))) (sTup (sCons (sCon (.str "3")) (sCons (sCon (.str "4")) (sCons (sCon (.str "5")) (sCons (sCon (.str "6")) (sCons (sCon (.str "7")) (sCons (sCon (.str "8")) sNil))))))) (uR (sD a) (some (.list ((w0 :: ws).map sD))) none none none none) = .ok (.bool (!decide (w0 ∈ six))) (uR (sD a) (some (.list ((w0 :: ws).map sD))) none none none none) := by
    refine ev_s2 (ix0 _ _ _ _) (by rw [six_eq]) ?_
    show (dCmp .NotIn (sD w0) (.tuple (six.map sD))).map PyData.bool = _
    rw [notin_six (hc w0 List.mem_cons_self).1]; rfl
  have top : r_due [sD a] = (match sSeq dA1 (sSeq dA2 (sSeq dA3 (sSeq dA4 (sSeq dA5 (sSeq (sRet dE) sSkip))))) (uR (sD a) (some (.list ((w0 :: ws).map sD))) none none none none) with | .nx _ => FD.ret .none | .ret d _ => .ret d | .retO l _ => .retO l | .retK l _ => .retK l | .retV k l _ => .retV k l | .ex e _ => .exc e | .no => .no) := by
    have : r_due [sD a] = (match fn__law_due (uR (sD a) none none none none none) with | .nx _ => FD.ret .none | .ret d _ => .ret d | .retO l _ => .retO l | .retK l _ => .retK l | .retV k l _ => .retV k l | .ex e _ => .exc e | .no => .no) := rfl
    rw [this, due_split, ev_seq s0]
  -- a web's text has these words
  have wd : ∀ n es, GridOk n es → txt n es = a → w0 = [dg n] ∧ ws = es.map tieT := fun n es g e => by
    have := txt_wds g.nine g.dg
    rw [e, ew] at this
    injection this with h1 h2
    exact ⟨h1, h2⟩
  by_cases q0 : w0 ∈ six
  rotate_left
  · rw [decide_eq_false q0] at s1
    refine ⟨.none, ?_, .inl ⟨rfl, fun n es g e => q0 ?_⟩⟩
    · rw [top, show sSeq dA1 (sSeq dA2 (sSeq dA3 (sSeq dA4 (sSeq dA5 (sSeq (sRet dE) sSkip))))) (uR (sD a) (some (.list ((w0 :: ws).map sD))) none none none none) = .ret .none (uR (sD a) (some (.list ((w0 :: ws).map sD))) none none none none) from ifY s1 rfl]
    · rw [(wd n es g e).1]; exact int_six g.lo g.hi
  rw [decide_eq_true q0] at s1
  obtain ⟨n, n3, n8, rfl⟩ := six_int q0
  have hn9 : 0 ≤ n ∧ n ≤ 9 := ⟨by omega, by omega⟩
  have iN : dIntS [sD [dg n]] = some (.int n) := by
    rw [int_dig (by unfold dg; omega) (by unfold dg; omega)]; unfold dg; rw [show ((48 + n.toNat : Nat) : Int) - 48 = n by omega]
  have s2' : dA2 (uR (sD a) (some (.list (([dg n] :: ws).map sD))) none none none none) = .nx (uR (sD a) (some (.list (([dg n] :: ws).map sD))) (some (.int n)) (oP []) none none) := by
    have e1 : sCall dIntS (sCons (s2 dIx (sVar 1) (sCon (.int 0))) sNil) (uR (sD a) (some (.list (([dg n] :: ws).map sD))) none none none none) = .ok (.int n) (uR (sD a) (some (.list (([dg n] :: ws).map sD))) none none none none) := ev_call (ev_cons (ix0 _ _ _ _) rfl) iN
    unfold dA2 sParO
    rw [e1]; rfl
  have s3 : dA3 (uR (sD a) (some (.list (([dg n] :: ws).map sD))) (some (.int n)) (oP []) none none) = forGo (.nm 4) wB (ws.map sD) (uR (sD a) (some (.list (([dg n] :: ws).map sD))) (some (.int n)) (oP []) none none) := by
    refine ev_for ?_
    show O.ok (cutL (([dg n] :: ws).map sD) (some 1) none) _ = _
    rw [cut1]; rfl
  have hcw : ∀ w ∈ ws, (∀ c ∈ w, c < 128) ∧ w.length ≤ 100000 := fun w hw => hc w (List.mem_cons_of_mem _ hw)
  have top2 : r_due [sD a] = (match sSeq dA3 (sSeq dA4 (sSeq dA5 (sSeq (sRet dE) sSkip))) (uR (sD a) (some (.list (([dg n] :: ws).map sD))) (some (.int n)) (oP []) none none) with | .nx _ => FD.ret .none | .ret d _ => .ret d | .retO l _ => .retO l | .retK l _ => .retK l | .retV k l _ => .retV k l | .ex e _ => .exc e | .no => .no) := by
    rw [top, show sSeq dA1 (sSeq dA2 (sSeq dA3 (sSeq dA4 (sSeq dA5 (sSeq (sRet dE) sSkip))))) (uR (sD a) (some (.list (([dg n] :: ws).map sD))) none none none none) = sSeq dA2 (sSeq dA3 (sSeq dA4 (sSeq dA5 (sSeq (sRet dE) sSkip)))) (uR (sD a) (some (.list (([dg n] :: ws).map sD))) none none none none) from ifN s1 (skip rfl), ev_seq s2']
  cases hp : pws ws with
  | none =>
    obtain ⟨ρ', e⟩ := loop_none (z := sD a) (x1 := some (.list (([dg n] :: ws).map sD))) (x2 := some (.int n)) (x5 := none) ws [] none hcw (by rw [List.length_nil]; omega) hp
    refine ⟨.none, ?_, .inl ⟨rfl, fun m es g e2 => ?_⟩⟩
    · rw [top2, ev_seqR (s3.trans e)]
    · rw [(wd m es g e2).2, pws_tieT fun t ht => by have := g.ends t ht; have := g.hi; omega] at hp
      cases hp
  | some es =>
    obtain ⟨x4, e⟩ := loop_val (z := sD a) (x1 := some (.list (([dg n] :: ws).map sD))) (x2 := some (.int n)) (x5 := none) ws [] none es hcw (by rw [List.length_nil]; omega) hp
    obtain ⟨ee, be⟩ := pws_eq hp
    have hdg : Dg es := fun t ht => by have := be t ht; omega
    have htx : txt n es = a := by rw [← hj, ee]; rfl
    have hl64 : es.length < 64 := by rw [ee, List.length_map] at hlen; omega
    have uniq : ∀ m fs, GridOk m fs → txt m fs = a → m = n ∧ fs = es := fun m fs g e2 => txt_inj g hn9 hdg (e2.trans htx.symm)
    have c1 := dC1_val (z := sD a) (x1 := some (.list (([dg n] :: ws).map sD))) (n := n) (es := es) (x4 := x4) (x5 := none)
    have c2 := dC2_val (z := sD a) (x1 := some (.list (([dg n] :: ws).map sD))) (x2 := some (.int n)) (es := es) (x4 := x4) (x5 := none) hl64 be
    have c3 : sOr dC1 dC2 (uR (sD a) (some (.list (([dg n] :: ws).map sD))) (some (.int n)) (oP (es.map tD)) x4 none) = .ok (.bool (!(es.filter (bad n)).isEmpty || !asc es)) (uR (sD a) (some (.list (([dg n] :: ws).map sD))) (some (.int n)) (dP (es.map tD)) x4 none) := by
      rw [ev_or c1]
      cases hb : (es.filter (bad n)).isEmpty with
      | true => exact (if_neg (by decide)).trans c2
      | false => exact if_pos rfl
    have top3 : r_due [sD a] = (match sSeq dA4 (sSeq dA5 (sSeq (sRet dE) sSkip)) (uR (sD a) (some (.list (([dg n] :: ws).map sD))) (some (.int n)) (oP (es.map tD)) x4 none) with | .nx _ => FD.ret .none | .ret d _ => .ret d | .retO l _ => .retO l | .retK l _ => .retK l | .retV k l _ => .retV k l | .ex e _ => .exc e | .no => .no) := by
      rw [top2, ev_seq (s3.trans e)]; rfl
    cases hb : (!(es.filter (bad n)).isEmpty || !asc es) with
    | true =>
      rw [hb] at c3
      refine ⟨.none, ?_, .inl ⟨rfl, fun m fs g e2 => ?_⟩⟩
      · rw [top3, show sSeq dA4 (sSeq dA5 (sSeq (sRet dE) sSkip)) (uR (sD a) (some (.list (([dg n] :: ws).map sD))) (some (.int n)) (oP (es.map tD)) x4 none) = .ret .none (uR (sD a) (some (.list (([dg n] :: ws).map sD))) (some (.int n)) (dP (es.map tD)) x4 none) from ifY c3 rfl]
      · obtain ⟨rfl, rfl⟩ := uniq m fs g e2
        rw [g.asc] at hb
        have : (fs.filter (bad m)) = [] := List.filter_eq_nil_iff.mpr fun t ht => by
          have := g.ends t ht
          unfold bad
          simp; omega
        rw [this] at hb
        cases hb
    | false =>
      rw [hb] at c3
      rw [Bool.or_eq_false_iff, Bool.not_eq_false', Bool.not_eq_false', List.isEmpty_iff, List.filter_eq_nil_iff] at hb
      have ends : ∀ t ∈ es, 0 ≤ t.1 ∧ t.1 < t.2 ∧ t.2 < n := fun t ht => by
        have h1 := hb.1 t ht
        have h2 := be t ht
        unfold bad at h1
        simp at h1
        omega
      have sm : Small n := ⟨by omega, by omega⟩
      have fin : r_due [sD a] = .ret (if even n es = true then gD n es else .none) := by
        rw [top3, show sSeq dA4 (sSeq dA5 (sSeq (sRet dE) sSkip)) (uR (sD a) (some (.list (([dg n] :: ws).map sD))) (some (.int n)) (oP (es.map tD)) x4 none) = sSeq dA5 (sSeq (sRet dE) sSkip) (uR (sD a) (some (.list (([dg n] :: ws).map sD))) (some (.int n)) (dP (es.map tD)) x4 none) from ifN c3 (skip rfl), ev_seq (dA5_val sm), ev_seqR (ev_ret (dE_val sm (by omega)))]
      by_cases q : even n es = true
      · rw [if_pos q] at fin
        exact ⟨_, fin, .inr ⟨n, es, rfl, ⟨n3, n8, hb.2, q, ends⟩, htx⟩⟩
      · rw [if_neg q] at fin
        refine ⟨_, fin, .inl ⟨rfl, fun m fs g e2 => q ?_⟩⟩
        obtain ⟨rfl, rfl⟩ := uniq m fs g e2
        exact g.even
end K12

set_option maxRecDepth 100000
set_option maxHeartbeats 4000000
namespace K12
open PySem PySem.Spec PyProof.Rows L2 Rf SX
theorem text_word : kwd "InvalidText" = some ("text" : Str) := by kernel_rfl
theorem text_eq : (dCmp .Eq (.str "text") (.str "text")) = some true := by kernel_rfl
theorem eq_gD (n : Int) (es : List (Int × Int)) : dCmp .Eq (gD n es) (gD n es) = some true := by
  show (if shaped (gD n es) && shaped (gD n es) then some (PyData.eqv (gD n es) (gD n es)) else none) = _
  have h := sh_gD n es
  rw [sh_of h, PySem.SeqAt.eqv_refl _ h.1]; rfl
theorem v_read_right {a : List Nat} (h : TOk a) : r_read_right [sD a] = .ret (.bool true) := by
  obtain ⟨d, e, hd⟩ := v_due h
  have s1 : sAsg (.nm 1) (sCallD (mD r_due) (sCons (sVar 0) sNil)) [some (.dat (sD a)), none] = .nx [some (.dat (sD a)), some (.dat d)] := ev_asg (ev_callD (ds := [sD a]) rfl e) rfl
  rcases hd with ⟨rfl, k⟩ | ⟨n, es, rfl, g, rfl⟩
  · have e2 : sWord kwd (sCallD (mD r_read_web) (sCons (sVar 0) sNil)) [some (.dat (sD a)), some (.dat .none)] = .ok (.str "text") [some (.dat (sD a)), some (.dat .none)] := ev_word (ev_callX (ds := [sD a]) rfl (v_read_no h k)) text_word
    have e3 : s2 (bCmp .Eq) (sWord kwd (sCallD (mD r_read_web) (sCons (sVar 0) sNil))) (sCon (.str "text")) [some (.dat (sD a)), some (.dat .none)] = .ok (.bool true) [some (.dat (sD a)), some (.dat .none)] := by
      refine ev_s2 e2 rfl ?_
      show (dCmp .Eq (.str "text") (.str "text")).map PyData.bool = _
      rw [text_eq]; rfl
    have e4 : s2 (bCmp .Is) (sVar 1) (sCon .none) [some (.dat (sD a)), some (.dat .none)] = .ok (.bool true) [some (.dat (sD a)), some (.dat .none)] := rfl
    exact runR' rfl ((ev_seq s1).trans (ifY e4 (ev_seqR (ev_seqR (ev_ret e3)))))
  · have e2 : sCallD (mD r_read_web) (sCons (sVar 0) sNil) [some (.dat (sD (txt n es))), some (.dat (gD n es))] = .ok (gD n es) [some (.dat (sD (txt n es))), some (.dat (gD n es))] := ev_callD (ds := [sD (txt n es)]) rfl (v_read_yes g)
    have e3 : s2 (bCmp .Eq) (sCallD (mD r_read_web) (sCons (sVar 0) sNil)) (sVar 1) [some (.dat (sD (txt n es))), some (.dat (gD n es))] = .ok (.bool true) [some (.dat (sD (txt n es))), some (.dat (gD n es))] := by
      refine ev_s2 e2 rfl ?_
      show (dCmp .Eq (gD n es) (gD n es)).map PyData.bool = _
      rw [eq_gD]; rfl
    have e4 : s2 (bCmp .Is) (sVar 1) (sCon .none) [some (.dat (sD (txt n es))), some (.dat (gD n es))] = .ok (.bool false) [some (.dat (sD (txt n es))), some (.dat (gD n es))] := rfl
    exact runR' rfl ((ev_seq s1).trans (ifN e4 (skip (ev_seqR (ev_ret e3)))))
/-! ### a text bent -/
def bR (l : List D) (z : D) (x2 x3 : Option D) (p : Option C) : Rho := [some (.ref l), some (.dat z), optD x2, optD x3, p]
theorem dip_b {l : List D} {z : D} {x2 x3 : Option D} {p : Option C} {many : Int} {fa : Rho → O D} (h : PotOk l) (h1 : 1 ≤ many) (h2 : many ≤ 8192) (hf : fa (bR l z x2 x3 p) = .ok (.int many) (bR l z x2 x3 p)) :
    ∃ (r : Int) (l' : List D), sCallR (mR r_dip) 0 (sCons fa sNil) (bR l z x2 x3 p) = .ok (.int r) (bR l' z x2 x3 p) ∧ 0 ≤ r ∧ r < many ∧ PotOk l' := by
  obtain ⟨r, l', e, h3, h4, h5⟩ := v_dip h h1 h2
  exact ⟨r, l', callR_eq (f := r_dip) (i := 0) rfl (ev_cons hf rfl) rfl e, h3, h4, h5⟩
theorem any_b {l xs : List D} {z : D} {x2 x3 : Option D} {p : Option C} {fa : Rho → O D} (h : PotOk l) (h1 : 1 ≤ xs.length) (h2 : xs.length ≤ 8192) (hf : fa (bR l z x2 x3 p) = .ok (.list xs) (bR l z x2 x3 p)) :
    ∃ (d : D) (l' : List D), sCallR (mR r_any) 0 (sCons fa sNil) (bR l z x2 x3 p) = .ok d (bR l' z x2 x3 p) ∧ d ∈ xs ∧ PotOk l' := by
  obtain ⟨d, l', e, h3, h4⟩ := v_any h h1 h2
  exact ⟨d, l', callR_eq (f := r_any) (i := 0) rfl (ev_cons hf rfl) rfl e, h3, h4⟩
def nine : List (List Nat) := [[32], [45], [48], [49], [55], [120], [48, 45, 49], [32, 48, 45, 49], [10]]
def nineE : Rho → O D := (sFrz (sLst (sCons (sCon (.str " ")) (sCons (sCon (.str "-")) (sCons (sCon (.str "0")) (sCons (sCon (.str "1")) (sCons (sCon (.str "7")) (sCons (sCon (.str "x")) (sCons (sCon (.str "0-1")) (sCons (sCon (.str " 0-1")) (sCons (sCon (.str "\n")) sNil)))))))))))
theorem nine_eq : nineE = fun ρ => .ok (.list (nine.map sD)) ρ := by kernel_rfl
def elev : List (List Nat) := [[48, 45, 49], [49, 45, 48], [53, 45, 54], [48, 45, 48], [49, 45, 50], [51], [56], [57], [], [48, 52], [48, 45, 49, 45, 50]]
def elevE : Rho → O D := (sFrz (sLst (sCons (sCon (.str "0-1")) (sCons (sCon (.str "1-0")) (sCons (sCon (.str "5-6")) (sCons (sCon (.str "0-0")) (sCons (sCon (.str "1-2")) (sCons (sCon (.str "3")) (sCons (sCon (.str "8")) (sCons (sCon (.str "9")) (sCons (sCon (.str "")) (sCons (sCon (.str "04")) (sCons (sCon (.str "0-1-2")) sNil)))))))))))))
theorem elev_eq : elevE = fun ρ => .ok (.list (elev.map sD)) ρ := by kernel_rfl
theorem nine_ok : ∀ p ∈ nine, (∀ c ∈ p, c < 128) ∧ p.length ≤ 4 ∧ p.count 32 ≤ 1 := by decide
theorem elev_ok : ∀ p ∈ elev, (∀ c ∈ p, c < 128) ∧ p.length ≤ 5 ∧ 32 ∉ p := by decide
theorem cut_to {α : Type} (xs : List α) {i : Int} (h : 0 ≤ i) : cutL xs none (some i) = xs.take i.toNat := by
  obtain ⟨k, rfl⟩ := Int.eq_ofNat_of_zero_le h
  unfold cutL
  rw [HT.sIx_none, HT.sIx_nat, List.drop_zero, Nat.sub_zero, Int.toNat_natCast]
  by_cases q : k ≤ xs.length
  · rw [Nat.min_eq_left q]
  · rw [Nat.min_eq_right (by omega), List.take_length, List.take_of_length_le (by omega)]
theorem cut_from {α : Type} (xs : List α) {i : Int} (h : 0 ≤ i) : cutL xs (some i) none = xs.drop i.toNat := by
  obtain ⟨k, rfl⟩ := Int.eq_ofNat_of_zero_le h
  unfold cutL
  rw [HT.sIx_none, HT.sIx_nat, Int.toNat_natCast]
  by_cases q : k ≤ xs.length
  · rw [Nat.min_eq_left q, List.take_of_length_le (by rw [List.length_drop]; omega)]
  · rw [Nat.min_eq_right (by omega), List.drop_length, List.drop_of_length_le (by omega), List.take_nil]
theorem to_S {a : List Nat} {i : Int} (h : 0 ≤ i) (hl : a.length ≤ 100000) : dSl (sD a) none (some i) = some (sD (a.take i.toNat)) := by
  show (if (S a).length ≤ 16777216 then some (PyData.str (cutS (S a) none (some i))) else none) = _
  rw [S_len, if_pos (by omega), C8.cutS_slice, slice_to h]
theorem from_S {a : List Nat} {i : Int} (h : 0 ≤ i) (hl : a.length ≤ 100000) : dSl (sD a) (some i) none = some (sD (a.drop i.toNat)) := by
  show (if (S a).length ≤ 16777216 then some (PyData.str (cutS (S a) (some i) none)) else none) = _
  rw [S_len, if_pos (by omega), C8.cutS_slice, slice_from h]
end K12

set_option maxRecDepth 100000
set_option maxHeartbeats 4000000
namespace K12
open PySem PySem.Spec PyProof.Rows L2 Rf SX
/-! ### _law_bent -/
def bE (k : Int) : Rho → O D := s2 (bCmp .Eq) (sVar 3) (sCon (.int k))
def b0 : Rho → OS := (sPar 2 3 (sCons (sCallR (mR r_dip) 0 (sCons (s2 (dBin .Add) (sCall dLen (sCons (sVar 1) sNil)) (sCon (.int 1))) sNil)) (sCons (sCallR (mR r_dip) 0 (sCons (sCon (.int 6)) sNil)) sNil)))
def c1 : Rho → O D := (s2 (dBin .Add) (s2 (dBin .Add) (sSl (sVar 1) (sPart none) (sPart (some (sVar 2)))) (sCallR (mR r_any) 0 (sCons nineE sNil))) (sSl (sVar 1) (sPart (some (sVar 2))) (sPart none)))
def c2 : Rho → O D := (s2 (dBin .Add) (sSl (sVar 1) (sPart none) (sPart (some (sVar 2)))) (sSl (sVar 1) (sPart (some (s2 (dBin .Add) (sVar 2) (sCon (.int 1))))) (sPart none)))
def b3 : Rho → OS := (sAsgO 4 (sM1 dSplit (sVar 1) (sCon (.str " "))))
def b4 : Rho → OS := (sAsg (.nm 2) (sCallR (mR r_dip) 0 (sCons (sLenH 4) sNil)))
def b5 : Rho → OS := (sAsgO 4 (sCatO (sSl (sVar 4) (sPart none) (sPart (some (sVar 2)))) (sSl (sVar 4) (sPart (some (s2 (dBin .Add) (sVar 2) (sCon (.int 1))))) (sPart none))))
def b6 : Rho → OS := (sAsgO 4 (sCatO (sSl (sVar 4) (sPart none) (sPart (some (s2 (dBin .Add) (sVar 2) (sCon (.int 1)))))) (sSl (sVar 4) (sPart (some (sVar 2))) (sPart none))))
def b7 : Rho → OS := (sItem 4 (sVar 2) (sCallR (mR r_any) 0 (sCons elevE sNil)))
def b8 : Rho → OS := (sAsgO 4 (sCatO (s2 (dBin .Add) (sSl (sVar 4) (sPart none) (sPart (some (sCon (.int 1))))) (sSl (sVar 4) (sPart (some (sCon (.int 2)))) (sPart none))) (sSl (sVar 4) (sPart (some (sCon (.int 1)))) (sPart (some (sCon (.int 2)))))))
def b9 : Rho → OS := (sRet (sM1 dJoin (sCon (.str " ")) (sVar 4)))
def onW (k : Int) (f : Rho → OS) : Rho → OS := sIf (bE k) (sSeq f sSkip) sSkip
theorem bent_split : fn__law_bent r_dip r_any = sSeq b0 (sSeq (onW 0 (sRet c1)) (sSeq (onW 1 (sRet c2)) (sSeq b3 (sSeq b4 (sSeq (onW 2 b5) (sSeq (onW 3 b6) (sSeq (onW 4 b7) (sSeq (onW 5 b8) (sSeq b9 sSkip))))))))) := rfl
theorem bE_val {l : List D} {z : D} {x2 : Option D} {p : Option C} (w k : Int) : bE k (bR l z x2 (some (.int w)) p) = .ok (.bool (w == k)) (bR l z x2 (some (.int w)) p) := by
  refine ev_s2 (x := .int w) (y := .int k) rfl rfl ?_
  show (dCmp .Eq (.int w) (.int k)).map PyData.bool = _
  rw [eq_ii]; rfl
theorem onN {l : List D} {z : D} {x2 : Option D} {p : Option C} {w k : Int} {f h : Rho → OS} {r : OS} (q : (w == k) = false) (e : h (bR l z x2 (some (.int w)) p) = r) : sSeq (onW k f) h (bR l z x2 (some (.int w)) p) = r := by
  have := bE_val (l := l) (z := z) (x2 := x2) (p := p) w k
  rw [q] at this
  exact ifN this (skip e)
theorem onY {l : List D} {z : D} {x2 : Option D} {p : Option C} {k : Int} {f h : Rho → OS} {r : OS} (e : sSeq (sSeq f sSkip) h (bR l z x2 (some (.int k)) p) = r) : sSeq (onW k f) h (bR l z x2 (some (.int k)) p) = r := by
  have := bE_val (l := l) (z := z) (x2 := x2) (p := p) k k
  rw [beq_self_eq_true] at this
  exact ifY this e
theorem seq_r {f g h : Rho → OS} {ρ ρ1 : Rho} {d : D} (e : f ρ = .ret d ρ1) : sSeq (sSeq f g) h ρ = .ret d ρ1 := ev_seqR (ev_seqR e)
theorem seq_n {f h : Rho → OS} {ρ ρ1 : Rho} {r : OS} (e : f ρ = .nx ρ1) (k : h ρ1 = r) : sSeq (sSeq f sSkip) h ρ = r := by
  rw [ev_seq (show sSeq f sSkip ρ = .nx ρ1 by rw [ev_seq e]; rfl)]; exact k
theorem b0_val {l : List D} {a : List Nat} (h : PotOk l) (ha : a.length ≤ 8000) : ∃ (i w : Int) (l' : List D), b0 (bR l (sD a) none none none) = .nx (bR l' (sD a) (some (.int i)) (some (.int w)) none) ∧ PotOk l' ∧ 0 ≤ i ∧ 0 ≤ w ∧ w < 6 := by
  have e1 : s2 (dBin .Add) (sCall dLen (sCons (sVar 1) sNil)) (sCon (.int 1)) (bR l (sD a) none none none) = .ok (.int ((a.length : Int) + 1)) (bR l (sD a) none none none) := by
    refine ev_s2 (x := .int a.length) (y := .int 1) (ev_call (ds := [sD a]) rfl ?_) rfl rfl
    show (if (S a).length ≤ 16777216 then some (PyData.int (S a).length) else none) = _
    rw [S_len, if_pos (by omega)]
  obtain ⟨i, l1, f1, i0, _, p1⟩ := dip_b h (by omega) (by omega) e1
  obtain ⟨w, l2, f2, w0, w6, p2⟩ := dip_b (l := l1) (z := sD a) (x2 := none) (x3 := none) (p := none) (fa := sCon (.int 6)) (many := 6) p1 (by decide) (by decide) rfl
  refine ⟨i, w, l2, ?_, p2, i0, w0, w6⟩
  unfold b0 sPar
  rw [ev_cons f1 (ev_cons f2 (show sNil (bR l2 (sD a) none none none) = .ok [] _ from rfl))]; rfl
theorem pt_some {f : Rho → O D} {ρ ρ1 : Rho} {i : Int} (h : f ρ = .ok (.int i) ρ1) : sPart (some f) ρ = .ok (some i) ρ1 := by
  unfold sPart
  dsimp only
  rw [h]; rfl
theorem ev_sl {fa : Rho → O D} {fl fh : Rho → O (Option Int)} {ρ ρ1 ρ2 ρ3 : Rho} {x z : D} {i j : Option Int} (h1 : fa ρ = .ok x ρ1) (h2 : fl ρ1 = .ok i ρ2) (h3 : fh ρ2 = .ok j ρ3) (h4 : dSl x i j = some z) : sSl fa fl fh ρ = .ok z ρ3 := by
  unfold sSl
  rw [h1]
  show (fl ρ1).bind _ = _
  rw [h2]
  show (fh ρ2).bind _ = _
  rw [h3]
  show lift (dSl x i j) ρ3 = _
  rw [h4]; rfl
theorem add_S {a b : List Nat} (h : a.length + b.length ≤ 100000) : dBin .Add (sD a) (sD b) = some (sD (a ++ b)) := by
  show (if (S a).length + (S b).length ≤ 16777216 then some (PyData.str (S a ++ S b)) else none) = _
  rw [S_len, S_len, if_pos (by omega), S_cat]
theorem c1_val {l : List D} {a : List Nat} {x3 : Option D} {p : Option C} {i : Int} (h : PotOk l) (ha : a.length ≤ 8000) (hi : 0 ≤ i) : ∃ (q : List Nat) (l' : List D), c1 (bR l (sD a) (some (.int i)) x3 p) = .ok (sD (a.take i.toNat ++ q ++ a.drop i.toNat)) (bR l' (sD a) (some (.int i)) x3 p) ∧ PotOk l' ∧ q ∈ nine := by
  obtain ⟨d, l1, f1, hd, p1⟩ := any_b (z := sD a) (x2 := some (.int i)) (x3 := x3) (p := p) (fa := nineE) (xs := nine.map sD) h (by decide) (by decide) (by rw [nine_eq])
  obtain ⟨q, hq, rfl⟩ := List.mem_map.mp hd
  have hq4 := (nine_ok q hq).2.1
  have t1 : (a.take i.toNat).length ≤ a.length := List.length_take_le' _ _
  have t2 : (a.drop i.toNat).length ≤ a.length := by rw [List.length_drop]; omega
  refine ⟨q, l1, ev_s2 (ev_s2 (ev_sl (x := sD a) (i := none) (j := some i) rfl rfl (pt_some rfl) (to_S hi (by omega))) f1 (add_S (by omega))) (ev_sl (x := sD a) (i := some i) (j := none) rfl (pt_some rfl) rfl (from_S hi (by omega))) (add_S (by rw [List.length_append]; omega)), p1, hq⟩
theorem c2_val {l : List D} {a : List Nat} {x3 : Option D} {p : Option C} {i : Int} (ha : a.length ≤ 8000) (hi : 0 ≤ i) : c2 (bR l (sD a) (some (.int i)) x3 p) = .ok (sD (a.take i.toNat ++ a.drop (i + 1).toNat)) (bR l (sD a) (some (.int i)) x3 p) := by
  have t1 : (a.take i.toNat).length ≤ a.length := List.length_take_le' _ _
  have t2 : (a.drop (i + 1).toNat).length ≤ a.length := by rw [List.length_drop]; omega
  exact ev_s2 (ev_sl (x := sD a) (i := none) (j := some i) rfl rfl (pt_some rfl) (to_S hi (by omega))) (ev_sl (x := sD a) (i := some (i + 1)) (j := none) rfl (pt_some (ev_s2 (x := .int i) (y := .int 1) rfl rfl rfl)) rfl (from_S (by omega) (by omega))) (add_S (by omega))
/-- the words, bent -/
theorem sl_to {ws : List (List Nat)} {i : Int} (h : 0 ≤ i) : dSl (.list (ws.map sD)) none (some i) = some (.list ((ws.take i.toNat).map sD)) := by
  show some (PyData.list (cutL (ws.map sD) none (some i))) = _
  rw [cut_to _ h, List.map_take]
theorem sl_from {ws : List (List Nat)} {i : Int} (h : 0 ≤ i) : dSl (.list (ws.map sD)) (some i) none = some (.list ((ws.drop i.toNat).map sD)) := by
  show some (PyData.list (cutL (ws.map sD) (some i) none)) = _
  rw [cut_from _ h, List.map_drop]
theorem catO {ws vs : List (List Nat)} {fa fb : Rho → O D} {ρ ρ1 ρ2 : Rho} (h1 : fa ρ = .ok (.list (ws.map sD)) ρ1) (h2 : fb ρ1 = .ok (.list (vs.map sD)) ρ2) (hl : ws.length + vs.length ≤ 100000) : sCatO fa fb ρ = .ok ((ws ++ vs).map sD) ρ2 := by
  unfold sCatO
  rw [h1]
  show (fb ρ1).bind _ = _
  rw [h2]
  show (if (ws.map sD).length + (vs.map sD).length ≤ 16777216 then O.ok (ws.map sD ++ vs.map sD) ρ2 else .no) = _
  rw [List.length_map, List.length_map, if_pos (by omega), List.map_append]
def dPl (l : List D) : Option C := some (.dat (.list l))
theorem asgO_dat {l : List D} {z : D} {x2 x3 : Option D} {ds es : List D} {fa : Rho → O (List D)} {p : Option C} (h : fa (bR l z x2 x3 p) = .ok es (bR l z x2 x3 (dPl ds))) : sAsgO 4 fa (bR l z x2 x3 p) = .nx (bR l z x2 x3 (oP es)) := by
  unfold sAsgO
  rw [h]; rfl
theorem b3_val {l : List D} {a : List Nat} {x2 x3 : Option D} (ha : a.length ≤ 8000) : b3 (bR l (sD a) x2 x3 none) = .nx (bR l (sD a) x2 x3 (oP ((wds a).map sD))) := by
  unfold b3 sAsgO
  have : sM1 dSplit (sVar 1) (sCon (.str " ")) (bR l (sD a) x2 x3 none) = .ok ((wds a).map sD) (bR l (sD a) x2 x3 none) := by
    show lift (dSplit (S a) (.str " ")) _ = _
    rw [sp_eq, d_split (by decide) (by omega)]; rfl
  rw [this]; rfl
theorem b4_val {l : List D} {z : D} {i : Int} {x3 : Option D} {ws : List (List Nat)} (h : PotOk l) (h1 : ws ≠ []) (h2 : ws.length ≤ 8000) : ∃ (j : Int) (l' : List D), b4 (bR l z (some (.int i)) x3 (oP (ws.map sD))) = .nx (bR l' z (some (.int j)) x3 (oP (ws.map sD))) ∧ PotOk l' ∧ 0 ≤ j ∧ j < ws.length := by
  have : 1 ≤ ws.length := by cases ws with | nil => exact absurd rfl h1 | cons w ws => simp
  obtain ⟨j, l1, f1, j0, j1, p1⟩ := dip_b (l := l) (z := z) (x2 := some (.int i)) (x3 := x3) (p := oP (ws.map sD)) (fa := sLenH 4) (many := ws.length) h (by omega) (by omega) (by
    show O.ok (PyData.int ((ws.map sD).length : Nat)) _ = _
    rw [List.length_map])
  exact ⟨j, l1, ev_asg f1 rfl, p1, j0, j1⟩
theorem b5_val {l : List D} {z : D} {j : Int} {x3 : Option D} {ws : List (List Nat)} (hj : 0 ≤ j) (h2 : ws.length ≤ 8000) : b5 (bR l z (some (.int j)) x3 (oP (ws.map sD))) = .nx (bR l z (some (.int j)) x3 (oP ((ws.take j.toNat ++ ws.drop (j + 1).toNat).map sD))) := by
  have t1 : (ws.take j.toNat).length ≤ ws.length := List.length_take_le' _ _
  have t2 : (ws.drop (j + 1).toNat).length ≤ ws.length := by rw [List.length_drop]; omega
  exact asgO_dat (ds := ws.map sD) (catO (ev_sl (x := .list (ws.map sD)) (i := none) (j := some j) (ρ1 := bR l z (some (.int j)) x3 (dPl (ws.map sD))) rfl rfl (pt_some rfl) (sl_to hj)) (ev_sl (x := .list (ws.map sD)) (i := some (j + 1)) (j := none) rfl (pt_some (ev_s2 (x := .int j) (y := .int 1) rfl rfl rfl)) rfl (sl_from (by omega))) (by omega))
theorem b6_val {l : List D} {z : D} {j : Int} {x3 : Option D} {ws : List (List Nat)} (hj : 0 ≤ j) (h2 : ws.length ≤ 8000) : b6 (bR l z (some (.int j)) x3 (oP (ws.map sD))) = .nx (bR l z (some (.int j)) x3 (oP ((ws.take (j + 1).toNat ++ ws.drop j.toNat).map sD))) := by
  have t1 : (ws.take (j + 1).toNat).length ≤ ws.length := List.length_take_le' _ _
  have t2 : (ws.drop j.toNat).length ≤ ws.length := by rw [List.length_drop]; omega
  exact asgO_dat (ds := ws.map sD) (catO (ev_sl (x := .list (ws.map sD)) (i := none) (j := some (j + 1)) (ρ1 := bR l z (some (.int j)) x3 (dPl (ws.map sD))) rfl rfl (pt_some (ev_s2 (x := .int j) (y := .int 1) rfl rfl rfl)) (sl_to (by omega))) (ev_sl (x := .list (ws.map sD)) (i := some j) (j := none) rfl (pt_some rfl) rfl (sl_from hj)) (by omega))
theorem b7_val {l : List D} {z : D} {j : Int} {x3 : Option D} {ws : List (List Nat)} (h : PotOk l) (hj : 0 ≤ j) (hj2 : j < ws.length) : ∃ (q : List Nat) (l' : List D), b7 (bR l z (some (.int j)) x3 (oP (ws.map sD))) = .nx (bR l' z (some (.int j)) x3 (oP ((ws.set j.toNat q).map sD))) ∧ PotOk l' ∧ q ∈ elev := by
  obtain ⟨d, l1, f1, hd, p1⟩ := any_b (z := z) (x2 := some (.int j)) (x3 := x3) (p := oP (ws.map sD)) (fa := elevE) (xs := elev.map sD) h (by decide) (by decide) (by rw [elev_eq])
  obtain ⟨q, hq, rfl⟩ := List.mem_map.mp hd
  refine ⟨q, l1, ?_, p1, hq⟩
  unfold b7 sItem
  rw [f1]
  have hx : ixN (ws.map sD).length j = some j.toNat := by
    rw [List.length_map]
    unfold ixN
    rw [if_pos hj, if_pos hj2]
  show (match ixN (ws.map sD).length j with | some k => OS.nx (setL _ 4 ((ws.map sD).set k (sD q))) | none => .no) = _
  rw [hx, List.map_set]; rfl
theorem b8_val {l : List D} {z : D} {x2 x3 : Option D} {ws : List (List Nat)} (h2 : ws.length ≤ 8000) : b8 (bR l z x2 x3 (oP (ws.map sD))) = .nx (bR l z x2 x3 (oP ((ws.take 1 ++ ws.drop 2 ++ (ws.drop 1).take 1).map sD))) := by
  have t1 : (ws.take 1).length ≤ ws.length := List.length_take_le' _ _
  have t2 : (ws.drop 2).length ≤ ws.length := by rw [List.length_drop]; omega
  have t3 : ((ws.drop 1).take 1).length ≤ ws.length := by rw [List.length_take, List.length_drop]; omega
  have k3 : dSl (.list (ws.map sD)) (some 1) (some 2) = some (.list (((ws.drop 1).take 1).map sD)) := by
    show some (PyData.list (cutL (ws.map sD) (some 1) (some 2))) = _
    have : cutL (ws.map sD) (some 1) (some 2) = ((ws.map sD).drop 1).take 1 := by
      rcases ws with _ | ⟨w, _ | ⟨v, ws⟩⟩
      · rfl
      · rfl
      · unfold cutL
        rw [show (1 : Int) = ((1 : Nat) : Int) from rfl, show (2 : Int) = ((2 : Nat) : Int) from rfl, HT.sIx_nat, HT.sIx_nat, Nat.min_eq_left (by simp), Nat.min_eq_left (by simp)]
    rw [this, List.map_take, List.map_drop]
  have k1 : s2 (dBin .Add) (sSl (sVar 4) (sPart none) (sPart (some (sCon (.int 1))))) (sSl (sVar 4) (sPart (some (sCon (.int 2)))) (sPart none)) (bR l z x2 x3 (oP (ws.map sD))) = .ok (.list ((ws.take 1 ++ ws.drop 2).map sD)) (bR l z x2 x3 (dPl (ws.map sD))) := by
    refine ev_s2 (ρ1 := bR l z x2 x3 (dPl (ws.map sD))) (ev_sl (x := .list (ws.map sD)) (i := none) (j := some 1) (ρ1 := bR l z x2 x3 (dPl (ws.map sD))) rfl rfl (pt_some rfl) (sl_to (by decide))) (ev_sl (x := .list (ws.map sD)) (i := some 2) (j := none) rfl (pt_some rfl) rfl (sl_from (by decide))) ?_
    show (if ((ws.take (1 : Int).toNat).map sD).length + ((ws.drop (2 : Int).toNat).map sD).length ≤ 16777216 then some (PyData.list ((ws.take (1 : Int).toNat).map sD ++ (ws.drop (2 : Int).toNat).map sD)) else none) = _
    rw [List.length_map, List.length_map, if_pos (by rw [show (1 : Int).toNat = 1 from rfl, show (2 : Int).toNat = 2 from rfl]; omega), ← List.map_append]; rfl
  exact asgO_dat (ds := ws.map sD) (catO k1 (ev_sl (x := .list (ws.map sD)) (i := some 1) (j := some 2) rfl (pt_some rfl) (pt_some rfl) k3) (by rw [List.length_append]; omega))
theorem b9_val {l : List D} {z : D} {x2 x3 : Option D} {ws : List (List Nat)} (h : mu ws ≤ 100000) : sSeq b9 sSkip (bR l z x2 x3 (oP (ws.map sD))) = .ret (sD (TL.joinL [32] ws)) (bR l z x2 x3 (dPl (ws.map sD))) := by
  refine ev_seqR (ev_ret ?_)
  show lift (dJoin " " (.list (ws.map sD))) _ = _
  rw [sp_eq, d_join h]; rfl
end K12

set_option maxRecDepth 100000
set_option maxHeartbeats 4000000
namespace K12
open PySem PySem.Spec PyProof.Rows L2 Rf SX
theorem mu_set : ∀ (ws : List (List Nat)) (j : Nat) (q : List Nat), mu (ws.set j q) ≤ mu ws + q.length + 1
  | [], j, q => by simp [mu]
  | w :: ws, 0, q => by rw [List.set_cons_zero, mu_cons, mu_cons]; omega
  | w :: ws, j + 1, q => by rw [List.set_cons_succ, mu_cons, mu_cons]; have := mu_set ws j q; omega
/-- what a bent text is like -/
structure Bent (a b : List Nat) : Prop where
  code : ∀ c ∈ b, c < 128
  len : b.length ≤ 3 * a.length + 20
  cnt : b.count 32 ≤ a.count 32 + 1
theorem bent_words {a : List Nat} {vs : List (List Nat)} (h : ∀ w ∈ vs, (∀ c ∈ w, c < 128) ∧ 32 ∉ w) (h2 : mu vs ≤ 3 * mu (wds a) + 6) (h3 : vs.length ≤ (wds a).length + 1) : Bent a (TL.joinL [32] vs) := by
  rw [wds_mu] at h2
  rw [wds_cnt] at h3
  refine ⟨fun c hc => ?_, ?_, ?_⟩
  · rcases joinL_mem 32 vs c hc with rfl | ⟨w, h4, h5⟩
    · decide
    · exact (h w h4).1 c h5
  · by_cases q : vs = []
    · subst q; simp [TL.joinL]
    · have := joinL_len 32 vs q; omega
  · by_cases q : vs = []
    · subst q; simp [TL.joinL]
    · have := joinL_cnt 32 vs q fun w hw => (h w hw).2; omega
theorem runR_ret {l l' : List D} {z d : D} {x2 x3 : Option D} {p : Option C} {ρ : Rho} (h : fn__law_bent r_dip r_any (bR l z none none none) = .ret d (bR l' z x2 x3 p)) : r_bent l [z] = .ret d l' := by
  show (match fn__law_bent r_dip r_any (bR l z none none none) with
    | .nx ρ => match refAt0 ρ with | some l' => FL.ret .none l' | none => .no
    | .ret d ρ => match refAt0 ρ with | some l' => .ret d l' | none => .no
    | .retO _ _ => .no
    | .retK _ _ => .no
    | .retV _ _ _ => .no
    | .ex e ρ => match refAt0 ρ with | some l' => .exc e l' | none => .no
    | .no => .no) = _
  rw [h]; rfl
theorem cnt_take (a : List Nat) (i : Nat) : (a.take i).count 32 + (a.drop i).count 32 = a.count 32 := by
  rw [← List.count_append, List.take_append_drop]
theorem cnt_drop1 (a : List Nat) (i : Nat) : (a.drop (i + 1)).count 32 ≤ (a.drop i).count 32 := by
  rw [← List.drop_drop]
  exact (List.drop_sublist 1 (a.drop i)).count_le 32
theorem v_bent {l : List D} {a : List Nat} (h : PotOk l) (hc : ∀ c ∈ a, c < 128) (ha : a.length ≤ 7000) : ∃ (b : List Nat) (l' : List D), r_bent l [sD a] = .ret (sD b) l' ∧ PotOk l' ∧ Bent a b := by
  obtain ⟨i, w, l1, e0, p1, i0, w0, w6⟩ := b0_val (a := a) h (by omega)
  have top : fn__law_bent r_dip r_any (bR l (sD a) none none none) = sSeq (onW 0 (sRet c1)) (sSeq (onW 1 (sRet c2)) (sSeq b3 (sSeq b4 (sSeq (onW 2 b5) (sSeq (onW 3 b6) (sSeq (onW 4 b7) (sSeq (onW 5 b8) (sSeq b9 sSkip)))))))) (bR l1 (sD a) (some (.int i)) (some (.int w)) none) := by
    rw [bent_split, ev_seq e0]
  by_cases q0 : w = 0
  · subst q0
    obtain ⟨q, l2, e1, p2, hq⟩ := c1_val (a := a) (x3 := some (.int 0)) (p := none) (l := l1) p1 (show a.length ≤ 8000 by omega) i0
    obtain ⟨n1, n2, n3⟩ := nine_ok q hq
    refine ⟨_, l2, runR_ret (ρ := []) (top.trans (onY (seq_r (ev_ret e1)))), p2, fun c hc' => ?_, ?_, ?_⟩
    · rcases List.mem_append.mp hc' with k | k
      · rcases List.mem_append.mp k with k | k
        · exact hc c (List.mem_of_mem_take k)
        · exact n1 c k
      · exact hc c (List.mem_of_mem_drop k)
    · have t1 : (a.take i.toNat).length ≤ a.length := List.length_take_le' _ _
      rw [List.length_append, List.length_append, List.length_drop]; omega
    · have := cnt_take a i.toNat
      rw [List.count_append, List.count_append]; omega
  by_cases q1 : w = 1
  · subst q1
    refine ⟨_, l1, runR_ret (ρ := []) (top.trans (onN rfl (onY (seq_r (ev_ret (c2_val (a := a) (by omega) i0)))))), p1, fun c hc' => ?_, ?_, ?_⟩
    · rcases List.mem_append.mp hc' with k | k
      · exact hc c (List.mem_of_mem_take k)
      · exact hc c (List.mem_of_mem_drop k)
    · have t1 : (a.take i.toNat).length ≤ a.length := List.length_take_le' _ _
      rw [List.length_append, List.length_drop]; omega
    · have := cnt_take a i.toNat
      have k := cnt_drop1 a i.toNat
      rw [show (i + 1).toNat = i.toNat + 1 by omega, List.count_append]; omega
  have hwl : (wds a).length ≤ 7001 := by have := mu_len (wds a); rw [wds_mu] at this; omega
  have hmu := wds_mu a
  obtain ⟨j, l2, e4, p2, j0, j1⟩ := b4_val (z := sD a) (i := i) (x3 := some (.int w)) p1 (wds_ne a) (by omega)
  have top2 : fn__law_bent r_dip r_any (bR l (sD a) none none none) = sSeq (onW 2 b5) (sSeq (onW 3 b6) (sSeq (onW 4 b7) (sSeq (onW 5 b8) (sSeq b9 sSkip)))) (bR l2 (sD a) (some (.int j)) (some (.int w)) (oP ((wds a).map sD))) := by
    rw [top]
    refine onN (beq_eq_false_iff_ne.mpr q0) (onN (beq_eq_false_iff_ne.mpr q1) ?_)
    rw [ev_seq (b3_val (by omega)), ev_seq e4]
  have okw : ∀ w ∈ wds a, (∀ c ∈ w, c < 128) ∧ 32 ∉ w := fun w hw => ⟨wds_code hc hw, wds_off hw⟩
  have lt1 := List.length_take_le' j.toNat (wds a)
  have : w = 2 ∨ w = 3 ∨ w = 4 ∨ w = 5 := by omega
  rcases this with rfl | rfl | rfl | rfl
  · have m1 := mu_take (wds a) j.toNat
    have m2 := mu_drop (wds a) (j + 1).toNat
    refine ⟨_, l2, runR_ret (ρ := []) (top2.trans (onY (seq_n (b5_val j0 (by omega)) (onN rfl (onN rfl (onN rfl (b9_val (by rw [mu_app]; omega)))))))), p2, bent_words (fun w hw => ?_) (by rw [mu_app]; omega) (by rw [List.length_append, List.length_take, List.length_drop]; omega)⟩
    rcases List.mem_append.mp hw with k | k
    · exact okw w (List.mem_of_mem_take k)
    · exact okw w (List.mem_of_mem_drop k)
  · have m1 := mu_take (wds a) (j + 1).toNat
    have m2 := mu_drop (wds a) j.toNat
    refine ⟨_, l2, runR_ret (ρ := []) (top2.trans (onN rfl (onY (seq_n (b6_val j0 (by omega)) (onN rfl (onN rfl (b9_val (by rw [mu_app]; omega)))))))), p2, bent_words (fun w hw => ?_) (by rw [mu_app]; omega) (by rw [List.length_append, List.length_take, List.length_drop]; omega)⟩
    rcases List.mem_append.mp hw with k | k
    · exact okw w (List.mem_of_mem_take k)
    · exact okw w (List.mem_of_mem_drop k)
  · obtain ⟨q, l3, e7, p3, hq⟩ := b7_val (z := sD a) (x3 := some (.int 4)) (ws := wds a) p2 j0 j1
    obtain ⟨n1, n2, n3⟩ := elev_ok q hq
    have m1 := mu_set (wds a) j.toNat q
    refine ⟨_, l3, runR_ret (ρ := []) (top2.trans (onN rfl (onN rfl (onY (seq_n e7 (onN rfl (b9_val (by omega)))))))), p3, bent_words (fun w hw => ?_) (by omega) (by rw [List.length_set]; omega)⟩
    rcases List.mem_or_eq_of_mem_set hw with k | k
    · exact okw w k
    · rw [k]; exact ⟨n1, n3⟩
  · have m1 := mu_take (wds a) 1
    have m2 := mu_drop (wds a) 2
    have m3 := mu_drop (wds a) 1
    have m4 := mu_take ((wds a).drop 1) 1
    refine ⟨_, l2, runR_ret (ρ := []) (top2.trans (onN rfl (onN rfl (onN rfl (onY (seq_n (b8_val (by omega)) (b9_val (by rw [mu_app, mu_app]; omega)))))))), p2, bent_words (fun w hw => ?_) (by rw [mu_app, mu_app]; omega) (by rw [List.length_append, List.length_append, List.length_take, List.length_drop, List.length_take, List.length_drop]; omega)⟩
    rcases List.mem_append.mp hw with k | k
    · rcases List.mem_append.mp k with k | k
      · exact okw w (List.mem_of_mem_take k)
      · exact okw w (List.mem_of_mem_drop k)
    · exact okw w (List.mem_of_mem_drop (List.mem_of_mem_take k))
end K12

set_option maxRecDepth 100000
set_option maxHeartbeats 4000000
namespace K12
open PySem PySem.Spec PyProof.Rows L2 Rf SX
/-! ### the law -/
theorem for_inv {t : Tg} {f : Rho → OS} (P : Rho → Prop) : ∀ (xs : List D) (ρ : Rho), P ρ → (∀ x ∈ xs, ∀ ρ, P ρ → ∃ ρ1 ρ2, Rf.bindT t x ρ = some ρ1 ∧ f ρ1 = .nx ρ2 ∧ P ρ2) → ∃ ρ', forGo t f xs ρ = .nx ρ' ∧ P ρ'
  | [], ρ, h, _ => ⟨ρ, rfl, h⟩
  | x :: xs, ρ, h, k => by
    obtain ⟨ρ1, ρ2, e1, e2, h2⟩ := k x List.mem_cons_self ρ h
    obtain ⟨ρ', e3, h3⟩ := for_inv P xs ρ2 h2 fun y hy => k y (List.mem_cons_of_mem _ hy)
    exact ⟨ρ', goN e1 e2 e3, h3⟩
def lR (s : D) (x1 : Option D) (p : Option C) (x3 x4 x5 x6 x7 : Option D) : Rho := [some (.dat s), optD x1, p, optD x3, optD x4, optD x5, optD x6, optD x7, none, none]
section
variable {s : D} {x1 x3 x4 x5 x6 x7 : Option D}
theorem callR_at {f : List D → List D → FL} {fa : Rho → O (List D)} {l l' : List D} {ds : List D} {d : D} (h1 : fa (lR s x1 (oP l) x3 x4 x5 x6 x7) = .ok ds (lR s x1 (oP l) x3 x4 x5 x6 x7)) (h3 : f l ds = .ret d l') :
    sCallR (mR f) 2 fa (lR s x1 (oP l) x3 x4 x5 x6 x7) = .ok d (lR s x1 (oP l') x3 x4 x5 x6 x7) := callR_eq (i := 2) rfl h1 rfl h3
def t1 : Rho → OS := (sAsgO 2 (sCallO (mD r_pot_of) (sCons (sVar 0) (sCons (sVar 1) sNil))))
theorem t1_val {ns : List Int} {k : Int} {p : Option C} (hl : ns.length ≤ 63) (h0 : 0 ≤ k) (h1 : k ≤ 63) (hp : p = none ∨ ∃ m, p = some (.own m)) :
    ∃ l, t1 (lR (.list (ns.map .int)) (some (.int k)) p x3 x4 x5 x6 x7) = .nx (lR (.list (ns.map .int)) (some (.int k)) (oP l) x3 x4 x5 x6 x7) ∧ PotOk l := by
  obtain ⟨l, e1, q⟩ := v_pot_of hl h0 h1
  refine ⟨l, ?_, q⟩
  have g1 : sCallO (mD r_pot_of) (sCons (sVar 0) (sCons (sVar 1) sNil)) (lR (.list (ns.map .int)) (some (.int k)) p x3 x4 x5 x6 x7) = .ok l (lR (.list (ns.map .int)) (some (.int k)) p x3 x4 x5 x6 x7) := by
    show (match mD r_pot_of ([PyData.list (ns.map .int), .int k].map .dat) with | .retO l _ => O.ok l (lR (.list (ns.map .int)) (some (.int k)) p x3 x4 x5 x6 x7) | .exc e _ => .ex e (lR (.list (ns.map .int)) (some (.int k)) p x3 x4 x5 x6 x7) | _ => .no) = _
    unfold mD
    rw [datsOf_dats]
    dsimp only
    rw [e1]
  unfold t1 sAsgO
  rw [g1]
  rcases hp with rfl | ⟨m, rfl⟩ <;> rfl
def a1 : Rho → OS := (sAsg (.nm 7) (sCallR (mR r_bent) 2 (sCons (sVar 5) sNil)))
def a2c : Rho → O D := (sNot (sCallD (mD r_read_right) (sCons (sIte (s2 (bCmp .Gt) (s2 (dBin .Mod) (sVar 6) (sCon (.int 3))) (sCon (.int 0))) (sVar 7) (sCallR (mR r_bent) 2 (sCons (sVar 7) sNil))) sNil)))
def agn : Rho → OS := sSeq a1 (sSeq (sIf a2c (sSeq (sRet (sCon (.bool false))) sSkip) sSkip) sSkip)
theorem agn_val {l : List D} {a : List Nat} {k : Int} (h : PotOk l) (hc : ∀ c ∈ a, c < 128) (hl : a.length ≤ 113) (hn : a.count 32 ≤ 28) :
    ∃ l' y, agn (lR s x1 (oP l) x3 x4 (some (sD a)) (some (.int k)) x7) = .nx (lR s x1 (oP l') x3 x4 (some (sD a)) (some (.int k)) y) ∧ PotOk l' := by
  obtain ⟨b, l1, e1, p1, hb⟩ := v_bent h hc (by omega)
  have b1 := hb.len
  have b2 := hb.cnt
  obtain ⟨c, l2, e2, p2, hc2⟩ := v_bent p1 hb.code (by omega)
  have d1 := hc2.len
  have d2 := hc2.cnt
  have okb : TOk b := ⟨hb.code, by omega, by omega⟩
  have okc : TOk c := ⟨hc2.code, by omega, by omega⟩
  have s1 : a1 (lR s x1 (oP l) x3 x4 (some (sD a)) (some (.int k)) x7) = .nx (lR s x1 (oP l1) x3 x4 (some (sD a)) (some (.int k)) (some (sD b))) := ev_asg (callR_at (ds := [sD a]) rfl e1) (by cases x7 <;> rfl)
  have c0 : ∀ l, s2 (bCmp .Gt) (s2 (dBin .Mod) (sVar 6) (sCon (.int 3))) (sCon (.int 0)) (lR s x1 (oP l) x3 x4 (some (sD a)) (some (.int k)) (some (sD b))) = .ok (.bool (decide (0 < k.fmod 3))) (lR s x1 (oP l) x3 x4 (some (sD a)) (some (.int k)) (some (sD b))) := fun l => ev_s2 (ev_s2 rfl rfl (b_mod (by decide))) rfl rfl
  unfold agn
  rw [ev_seq s1]
  by_cases q : 0 < k.fmod 3
  · refine ⟨l1, some (sD b), ?_, p1⟩
    have e3 : a2c (lR s x1 (oP l1) x3 x4 (some (sD a)) (some (.int k)) (some (sD b))) = .ok (.bool false) (lR s x1 (oP l1) x3 x4 (some (sD a)) (some (.int k)) (some (sD b))) := by
      refine ev_not (b := true) (callB (ds := [sD b]) (ev_cons ((ev_ite (c0 l1)).trans ?_) rfl) (v_read_right okb))
      rw [decide_eq_true q, if_pos rfl]; rfl
    exact ifN e3 rfl
  · refine ⟨l2, some (sD b), ?_, p2⟩
    have e3 : a2c (lR s x1 (oP l1) x3 x4 (some (sD a)) (some (.int k)) (some (sD b))) = .ok (.bool false) (lR s x1 (oP l2) x3 x4 (some (sD a)) (some (.int k)) (some (sD b))) := by
      refine ev_not (b := true) (callB (ds := [sD c]) (ev_cons ((ev_ite (c0 l1)).trans ?_) rfl) (v_read_right okc))
      rw [decide_eq_false q, if_neg (by decide)]
      exact callR_at (ds := [sD b]) rfl e2
    exact ifN e3 rfl
def d1 : Rho → OS := (sAsg (.nm 4) (sCallR (mR r_drawn) 2 (sCons (sCon (.int 3)) (sCons (sCon (.int 8)) sNil))))
def d2 : Rho → OS := (sAsg (.nm 5) (sCallD (mD r_text) (sCons (sVar 4) sNil)))
def d3c : Rho → O D := (sOr (s2 (bCmp .NotEq) (sCallD (mD r_web_text) (sCons (sVar 4) sNil)) (sVar 5)) (s2 (bCmp .NotEq) (sCallD (mD r_read_web) (sCons (sVar 5) sNil)) (sVar 4)))
def d4 : Rho → OS := sFor (.nm 6) (sRng (sCons (sCon (.int 10)) sNil)) agn
def inn : Rho → OS := sSeq d1 (sSeq d2 (sSeq (sIf d3c (sSeq (sRet (sCon (.bool false))) sSkip) sSkip) (sSeq d4 sSkip)))
theorem ne_gD (n : Int) (es : List (Int × Int)) : dCmp .NotEq (gD n es) (gD n es) = some false := by
  show (if shaped (gD n es) && shaped (gD n es) then some (!PyData.eqv (gD n es) (gD n es)) else none) = _
  have h := sh_gD n es
  rw [sh_of h, PySem.SeqAt.eqv_refl _ h.1]; rfl
theorem inn_val {l : List D} (h : PotOk l) : ∃ l' n es y5 y6 y7, inn (lR s x1 (oP l) x3 x4 x5 x6 x7) = .nx (lR s x1 (oP l') x3 (some (gD n es)) y5 y6 y7) ∧ PotOk l' ∧ GridOk n es := by
  obtain ⟨n, es, l1, e1, g, p1, _, _⟩ := v_drawn (lo := 3) (hi := 8) (by decide) (by decide) (by decide) h
  have s1 : d1 (lR s x1 (oP l) x3 x4 x5 x6 x7) = .nx (lR s x1 (oP l1) x3 (some (gD n es)) x5 x6 x7) := ev_asg (callR_at rfl e1) (by cases x4 <;> rfl)
  have s2' : d2 (lR s x1 (oP l1) x3 (some (gD n es)) x5 x6 x7) = .nx (lR s x1 (oP l1) x3 (some (gD n es)) (some (sD (txt n es))) x6 x7) := ev_asg (ev_callD (ds := [gD n es]) rfl (v_law_text g.nine g.dg (by have := es_len g; omega))) (by cases x5 <;> rfl)
  generalize hW : lR s x1 (oP l1) x3 (some (gD n es)) (some (sD (txt n es))) x6 x7 = W at s2'
  have v4 : sVar 4 W = .ok (gD n es) W := by rw [← hW]; rfl
  have v5 : sVar 5 W = .ok (sD (txt n es)) W := by rw [← hW]; rfl
  have c1 : s2 (bCmp .NotEq) (sCallD (mD r_web_text) (sCons (sVar 4) sNil)) (sVar 5) W = .ok (.bool false) W := by
    refine ev_s2 (ev_callD (ds := [gD n es]) (ev_cons v4 rfl) (v_web_text g)) v5 ?_
    show (dCmp .NotEq (sD (txt n es)) (sD (txt n es))).map PyData.bool = _
    rw [ne_S (txt_code g) (txt_code g), decide_eq_true rfl]; rfl
  have c2 : s2 (bCmp .NotEq) (sCallD (mD r_read_web) (sCons (sVar 5) sNil)) (sVar 4) W = .ok (.bool false) W := by
    refine ev_s2 (ev_callD (ds := [sD (txt n es)]) (ev_cons v5 rfl) (v_read_yes g)) v4 ?_
    show (dCmp .NotEq (gD n es) (gD n es)).map PyData.bool = _
    rw [ne_gD]; rfl
  have c3 : d3c W = .ok (.bool false) W := (ev_or c1).trans ((if_neg (by decide)).trans c2)
  obtain ⟨ρ', e4, l2, y6, y7, rfl, p2⟩ := for_inv (t := .nm 6) (f := agn) (fun ρ => ∃ l y6 y7, ρ = lR s x1 (oP l) x3 (some (gD n es)) (some (sD (txt n es))) y6 y7 ∧ PotOk l) ((rng 10).map .int) W ⟨l1, x6, x7, hW.symm, p1⟩ (fun x hx ρ ⟨l, y6, y7, e, p⟩ => by
    obtain ⟨k, _, rfl⟩ := List.mem_map.mp hx
    obtain ⟨l', y, e2, p'⟩ := agn_val (s := s) (x1 := x1) (x3 := x3) (x4 := some (gD n es)) (x7 := y7) (k := k) p (txt_code g) (txt_len g) (txt_cnt g)
    exact ⟨_, _, by rw [e]; cases y6 <;> rfl, e2, l', some (.int k), y, rfl, p'⟩)
  have s4 : d4 W = .nx (lR s x1 (oP l2) x3 (some (gD n es)) (some (sD (txt n es))) y6 y7) := (ev_for (xs := (rng 10).map .int) (ρ1 := W) (by kernel_rfl)).trans e4
  refine ⟨l2, n, es, some (sD (txt n es)), y6, y7, ?_, p2, g⟩
  unfold inn
  rw [ev_seq s1, ev_seq s2']
  refine ifN c3 (skip ?_)
  rw [ev_seq s4]; rfl
def wIf : Rho → OS := (sIf (s2 (bCmp .NotEq) (sWord kwd (sCallD (mD r_web_text) (sCons (sFrz (sListOf (sCons (sVar 4) sNil))) sNil))) (sCon (.str "web"))) (sSeq (sRet (sCon (.bool false))) sSkip) sSkip)
theorem word_if {f : Rho → O D} {z : Str} {ρ : Rho} (h : sWord kwd f ρ = .ok (.str z) ρ) (hz : dCmp .NotEq (.str z) (.str z) = some false) : sIf (s2 (bCmp .NotEq) (sWord kwd f) (sCon (.str z))) (sSeq (sRet (sCon (.bool false))) sSkip) sSkip ρ = .nx ρ := by
  have c : s2 (bCmp .NotEq) (sWord kwd f) (sCon (.str z)) ρ = .ok (.bool false) ρ := ev_s2 (g := bCmp .NotEq) h rfl (by unfold bCmp; rw [hz]; rfl)
  rw [ev_if c]; rfl
theorem v_web_bad {d : D} (hd : shK 60 d) (h : isWebD d = false) : r_web_text [d] = .exc (.own "InvalidWeb") := by
  have e1 : r_need_web [d] = .exc (.own "InvalidWeb") := runX (ρ := [some (.dat d)]) rfl (ifY (ev_not (callB (f := r_is_web_so) (b := false) (ds := [d]) rfl (by rw [v_is_web_so _ hd, h]))) rfl)
  exact runX (ρ := [some (.dat d)]) rfl (stop (ds := [d]) rfl e1)
def lTurn : Rho → OS := sSeq t1 (sSeq (sFor (.nm 3) (sRng (sCons (sCon (.int 4)) sNil)) inn) (sSeq wIf sSkip))
theorem turn {ns : List Int} {k : Int} {p : Option C} (hl : ns.length ≤ 63) (h0 : 0 ≤ k) (h1 : k ≤ 63) (hp : p = none ∨ ∃ m, p = some (.own m)) :
    ∃ l y3 y4 y5 y6 y7, lTurn (lR (.list (ns.map .int)) (some (.int k)) p x3 x4 x5 x6 x7) = .nx (lR (.list (ns.map .int)) (some (.int k)) (oP l) y3 y4 y5 y6 y7) := by
  obtain ⟨l1, e1, p1⟩ := t1_val (x3 := x3) (x4 := x4) (x5 := x5) (x6 := x6) (x7 := x7) hl h0 h1 hp
  obtain ⟨l2, n1, es1, a5, a6, a7, e2, p2, _⟩ := inn_val (s := .list (ns.map .int)) (x1 := some (.int k)) (x3 := some (.int 0)) (x4 := x4) (x5 := x5) (x6 := x6) (x7 := x7) p1
  obtain ⟨l3, n2, es2, b5, b6, b7, e3, p3, _⟩ := inn_val (s := .list (ns.map .int)) (x1 := some (.int k)) (x3 := some (.int 1)) (x4 := some (gD n1 es1)) (x5 := a5) (x6 := a6) (x7 := a7) p2
  obtain ⟨l4, n3, es3, c5, c6, c7, e4, p4, _⟩ := inn_val (s := .list (ns.map .int)) (x1 := some (.int k)) (x3 := some (.int 2)) (x4 := some (gD n2 es2)) (x5 := b5) (x6 := b6) (x7 := b7) p3
  obtain ⟨l5, m, fs, d5, d6, d7, e5, p5, g5⟩ := inn_val (s := .list (ns.map .int)) (x1 := some (.int k)) (x3 := some (.int 3)) (x4 := some (gD n3 es3)) (x5 := c5) (x6 := c6) (x7 := c7) p4
  let W := lR (.list (ns.map .int)) (some (.int k)) (oP l5) (some (.int 3)) (some (gD m fs)) d5 d6 d7
  have fin : sFor (.nm 3) (sRng (sCons (sCon (.int 4)) sNil)) inn (lR (.list (ns.map .int)) (some (.int k)) (oP l1) x3 x4 x5 x6 x7) = .nx W :=
    (ev_for (xs := [.int 0, .int 1, .int 2, .int 3]) (ρ1 := lR (.list (ns.map .int)) (some (.int k)) (oP l1) x3 x4 x5 x6 x7) (by kernel_rfl)).trans (goN (by cases x3 <;> rfl) e2 (goN rfl e3 (goN rfl e4 (goN rfl e5 rfl))))
  have a1 : wIf W = .nx W := word_if (ev_word (ev_callX (ds := [.list [.int m, esD fs]]) rfl (v_web_bad (sh_up (sh_list (k := 2) fun x hx => by
    simp only [List.mem_cons, List.not_mem_nil, or_false] at hx
    rcases hx with rfl | rfl
    · exact sh_int _
    · exact sh_esD fs) (by decide)) rfl)) (by kernel_rfl)) (by kernel_rfl)
  refine ⟨l5, some (.int 3), some (gD m fs), d5, d6, d7, ?_⟩
  unfold lTurn
  rw [ev_seq e1, ev_seq fin, ev_seq a1]
  rfl
end
def lI : Rho → O (List D) := (sRng (sCons (s2 (dBin .Add) (sCon (.int 1)) (sCall dMin (sCons (sCall dLen (sCons (sVar 0) sNil)) (sCons (sCon (.int 8)) sNil)))) sNil))
def lEnd : Rho → OS := (sSeq (sAsg (.nm 8) (sFrz (sLst (sCons (sCon .none) (sCons (sCon (.int 5)) (sCons (sCon (.str "")) (sCons (sCon (.str "3")) (sCons (sCon (.str "3 0-1")) (sCons (sCon (.str "3 0-1 0-2 1-2 ")) (sCons (sCon (.str " 3 0-1 0-2 1-2")) (sCons (sCon (.str "3  0-1 0-2 1-2")) (sCons (sCon (.str "3 0-2 0-1 1-2")) sNil)))))))))))) (sSeq (sAsg (.nm 8) (s2 (dBin .Add) (sVar 8) (sFrz (sLst (sCons (sCon (.str "3 1-0 0-2 1-2")) (sCons (sCon (.str "03 0-1 0-2 1-2")) (sCons (sCon (.str "4 0-1 2-3 2-3")) (sCons (sCon (.str "2 0-1")) (sCons (sCon (.str "9 0-1")) (sCons (sCon (.str "4 0-1,2-3")) (sCons (sFrz (sLst (sCons (sCon (.str "4 0-1 2-3")) sNil))) sNil))))))))))) (sSeq (sIf (s2 (bCmp .NotEq) (sFrz (sLc (.nm 9) [9] (sItems (sVar 8)) (s2 (bCmp .NotEq) (sWord kwd (sCallD (mD r_read_web) (sCons (sVar 9) sNil))) (sCon (.str "text"))) (sVar 9))) (sFrz (sLst sNil))) (sSeq (sRet (sCon (.bool false))) sSkip) sSkip) (sSeq (sRet (sAnd (s2 (bCmp .Eq) (sCallD (mD r_read_web) (sCons (sCon (.str "4 0-1 2-3")) sNil)) (sTup (sCons (sCon (.int 4)) (sCons (sTup (sCons (sTup (sCons (sCon (.int 0)) (sCons (sCon (.int 1)) sNil))) (sCons (sTup (sCons (sCon (.int 2)) (sCons (sCon (.int 3)) sNil))) sNil))) sNil)))) (s2 (bCmp .Eq) (sCallD (mD r_web_text) (sCons (sCallD (mD r_round) (sCons (sCon (.int 3)) (sCons (sFrz (sLst (sCons (sCon (.int 1)) sNil))) sNil))) sNil)) (sCon (.str "3 0-1 0-2 1-2"))))) sSkip))))
theorem law_split : fn_law r_web_text r_read_web r_pot_of r_round r_drawn r_text r_bent r_read_right = sSeq (sFor (.nm 1) lI lTurn) lEnd := rfl
def retOf : OS → Option D
  | .ret d _ => some d
  | _ => none
theorem end_val {s : D} {x1 : Option D} {p : Option C} {x3 x4 x5 x6 x7 : Option D} : retOf (lEnd (lR s x1 p x3 x4 x5 x6 x7)) = some (.bool true) := by kernel_rfl
def Ok (ns : List Int) (ρ : Rho) : Prop := ∃ x1 p x3 x4 x5 x6 x7, ρ = lR (.list (ns.map .int)) x1 p x3 x4 x5 x6 x7 ∧ (p = none ∨ ∃ m, p = some (.own m))
theorem v_law {ns : List Int} (hl : ns.length ≤ 63) : r_law [.list (ns.map .int)] = .ret (.bool true) := by
  obtain ⟨many, hm⟩ : ∃ many : Int, many = 1 + (if (8 : Int) < (ns.length : Int) then 8 else (ns.length : Int)) := ⟨_, rfl⟩
  have hmb : 0 ≤ many ∧ many ≤ 9 := by rw [hm]; split <;> omega
  let R0 : Rho := lR (.list (ns.map .int)) none none none none none none none
  have ei : lI R0 = .ok ((rng many).map .int) R0 := by
    have e1 : Rf.s2 (dBin .Add) (sCon (.int 1)) (sCall dMin (sCons (sCall dLen (sCons (sVar 0) sNil)) (sCons (sCon (.int 8)) sNil))) R0 = .ok (.int many) R0 := by
      rw [hm]
      have : (ns.length : Int) = (((ns.map PyData.int).length : Nat) : Int) := by rw [List.length_map]
      rw [this]
      rfl
    unfold lI sRng
    rw [show sCons (Rf.s2 (dBin .Add) (sCon (.int 1)) (sCall dMin (sCons (sCall dLen (sCons (sVar 0) sNil)) (sCons (sCon (.int 8)) sNil)))) sNil R0 = .ok [.int many] R0 from ev_cons e1 rfl]
    show (if -(2 ^ 62) ≤ many ∧ many ≤ 16777216 then O.ok (rangeD 0 many.toNat) R0 else O.no) = _
    rw [if_pos (by omega), rngD]
  obtain ⟨ρ', e2, x1, p, x3, x4, x5, x6, x7, rfl, _⟩ := for_inv (t := .nm 1) (f := lTurn) (Ok ns) ((rng many).map .int) R0 ⟨none, none, none, none, none, none, none, rfl, .inl rfl⟩ (fun x hx ρ ⟨x1, p, x3, x4, x5, x6, x7, e, hp⟩ => by
    obtain ⟨k, hk, rfl⟩ := List.mem_map.mp hx
    have := mem_rng.mp hk
    obtain ⟨l, y3, y4, y5, y6, y7, e2⟩ := turn (x3 := x3) (x4 := x4) (x5 := x5) (x6 := x6) (x7 := x7) (k := k) hl (by omega) (by omega) hp
    exact ⟨_, _, by rw [e]; cases x1 <;> rfl, e2, some (.int k), oP l, y3, y4, y5, y6, y7, rfl, .inr ⟨l, rfl⟩⟩)
  have e3 : fn_law r_web_text r_read_web r_pot_of r_round r_drawn r_text r_bent r_read_right R0 = lEnd (lR (.list (ns.map .int)) x1 p x3 x4 x5 x6 x7) := by
    rw [law_split, ev_seq ((ev_for ei).trans e2)]
  have e4 := end_val (s := .list (ns.map .int)) (x1 := x1) (p := p) (x3 := x3) (x4 := x4) (x5 := x5) (x6 := x6) (x7 := x7)
  rw [← e3] at e4
  cases hq : fn_law r_web_text r_read_web r_pot_of r_round r_drawn r_text r_bent r_read_right R0 with
  | ret d ρ =>
    rw [hq] at e4
    cases e4
    exact runR' rfl hq
  | nx ρ => rw [hq] at e4; cases e4
  | retO l ρ => rw [hq] at e4; cases e4
  | retK l ρ => rw [hq] at e4; cases e4
  | retV k l ρ => rw [hq] at e4; cases e4
  | ex e ρ => rw [hq] at e4; cases e4
  | no => rw [hq] at e4; cases e4
end K12

set_option maxRecDepth 100000
set_option maxHeartbeats 4000000
namespace K12
open PySem PySem.Spec PyProof.Rows L2 Rf
section
variable {B : Bs} {P : Program} {w : World} {mg : Str → Option Value} {base : Heap} {Tb : List (Addr × Str)} {L : List (Str × Addr)} {cm : Addr}
theorem g_is_int (T : Txt B P w mg base Tb L cm) : FnGood B P w mg base 1 "is_int" 3 (mD r_is_int) := ok_is_int (k := 0) T
theorem g_rises (T : Txt B P w mg base Tb L cm) : FnGood B P w mg base 1 "rises" 1 (mD r_rises) := ok_rises (k := 0) T
theorem g_is_tie (T : Txt B P w mg base Tb L cm) : FnGood B P w mg base 2 "is_tie" 2 (mD r_is_tie) := ok_is_tie (k := 1) T _ (g_is_int T) (by decide)
theorem g_degrees (T : Txt B P w mg base Tb L cm) : FnGood B P w mg base 1 "degrees" 2 (mD r_degrees) := ok_degrees (k := 0) T
theorem g_is_even (T : Txt B P w mg base Tb L cm) : FnGood B P w mg base 2 "is_even" 2 (mD r_is_even) := ok_is_even (k := 1) T _ (g_degrees T) (by decide)
theorem g_is_web_so (T : Txt B P w mg base Tb L cm) : FnGood B P w mg base 3 "is_web_so" 1 (mD r_is_web_so) := ok_is_web_so (k := 2) T _ _ _ _ (g_is_int T) (by decide) (g_rises T) (by decide) (g_is_tie T) (by decide) (g_is_even T) (by decide)
theorem g_need_web (T : Txt B P w mg base Tb L cm) : FnGood B P w mg base 4 "need_web" 1 (mD r_need_web) := ok_need_web (k := 3) T _ (g_is_web_so T) (by decide)
theorem g_figure_of (T : Txt B P w mg base Tb L cm) : FnGood B P w mg base 1 "figure_of" 1 (mD r_figure_of) := ok_figure_of (k := 0) T
theorem g_text_of (T : Txt B P w mg base Tb L cm) : FnGood B P w mg base 1 "text_of" 1 (mD r_text_of) := ok_text_of (k := 0) T
theorem g_web_of (T : Txt B P w mg base Tb L cm) : FnGood B P w mg base 4 "web_of" 1 (mD r_web_of) := ok_web_of (k := 3) T _ _ _ (g_is_web_so T) (by decide) (g_figure_of T) (by decide) (g_text_of T) (by decide)
theorem g_web_text (T : Txt B P w mg base Tb L cm) : FnGood B P w mg base 5 "web_text" 1 (mD r_web_text) := ok_web_text (k := 4) T _ _ (g_need_web T) (by decide) (g_text_of T) (by decide)
theorem g_read_web (T : Txt B P w mg base Tb L cm) : FnGood B P w mg base 5 "read_web" 1 (mD r_read_web) := ok_read_web (k := 4) T _ (g_web_of T) (by decide)
theorem g__law_pot_of (T : Txt B P w mg base Tb L cm) : FnGood B P w mg base 1 "_law_pot_of" 2 (mD r_pot_of) := ok__law_pot_of (k := 0) T
theorem g__law_dip (T : Txt B P w mg base Tb L cm) : FnGood B P w mg base 1 "_law_dip" 2 (mR r_dip) := ok__law_dip (k := 0) T
theorem g__law_any (T : Txt B P w mg base Tb L cm) : FnGood B P w mg base 2 "_law_any" 2 (mR r_any) := ok__law_any (k := 1) T _ (g__law_dip T) (by decide)
theorem g__law_are_tied (T : Txt B P w mg base Tb L cm) : FnGood B P w mg base 1 "_law_are_tied" 3 (mD r_law_are_tied) := ok__law_are_tied (k := 0) T
theorem g__law_round (T : Txt B P w mg base Tb L cm) : FnGood B P w mg base 1 "_law_round" 2 (mD r_round) := ok__law_round (k := 0) T
theorem g__law_fours (T : Txt B P w mg base Tb L cm) : FnGood B P w mg base 2 "_law_fours" 1 (mD r_fours) := ok__law_fours (k := 1) T _ (g__law_are_tied T) (by decide)
theorem g__law_behind (T : Txt B P w mg base Tb L cm) : FnGood B P w mg base 1 "_law_behind" 2 (mD r_behind) := ok__law_behind (k := 0) T
theorem g__law_drawn (T : Txt B P w mg base Tb L cm) : FnGood B P w mg base 3 "_law_drawn" 3 (mR r_drawn) := ok__law_drawn (k := 2) T _ _ _ _ _ (g__law_dip T) (by decide) (g__law_any T) (by decide) (g__law_round T) (by decide) (g__law_fours T) (by decide) (g__law_behind T) (by decide)
theorem g__law_text (T : Txt B P w mg base Tb L cm) : FnGood B P w mg base 1 "_law_text" 1 (mD r_text) := ok__law_text (k := 0) T
theorem g__law_due (T : Txt B P w mg base Tb L cm) : FnGood B P w mg base 1 "_law_due" 1 (mD r_due) := ok__law_due (k := 0) T
theorem g__law_bent (T : Txt B P w mg base Tb L cm) : FnGood B P w mg base 3 "_law_bent" 2 (mR r_bent) := ok__law_bent (k := 2) T _ _ (g__law_dip T) (by decide) (g__law_any T) (by decide)
theorem g__law_read_right (T : Txt B P w mg base Tb L cm) : FnGood B P w mg base 9 "_law_read_right" 1 (mD r_read_right) := ok__law_read_right (k := 5) T _ _ (g_read_web T) (by decide) (g__law_due T) (by decide)
theorem law_fn (T : Txt B P w mg base Tb L cm) {f : Addr} {fd : FuncData} (F : Fun B.K "law" "law" (top 47) f fd) {c P1 : Addr} (hc : ∀ cdv, CodeAt B.K "law" "law" (top 47) f fd cdv → cdv = .ref c) (TB : LamX.TabB base mg c P1) (hT : (P1, lamName "law") ∈ Tb) (hu : ∀ p ∈ Tb, p.1 = P1 → p.2 = lamName "law") : FnOk P w B.K mg base (L2N.CX P w) 13 f fd ["script"] (spOf B (mD r_law)) := by
  refine ok_DC (B := B) (k := 12) F sc_law fun cdv hcd A outer s H E hr => ?_
  have e := hc cdv hcd
  subst e
  exact body_law (k := 9) T _ _ _ _ _ _ _ _ (g_web_text T) (by decide) (g_read_web T) (by decide) (g__law_pot_of T) (by decide) (g__law_round T) (by decide) (g__law_drawn T) (by decide) (g__law_text T) (by decide) (g__law_bent T) (by decide) (g__law_read_right T) (by decide) f c P1 TB hT hu A outer s H E hr
end
end K12

set_option maxRecDepth 100000
set_option maxHeartbeats 4000000
namespace K12
open PySem PySem.Spec PyProof.Rows L2 Rf
theorem txt_mk {K : PySem.W.Frag} {h : Heap} {mg : Str → Option Value} {P : Program} {w : World} {base : Heap} (X : K.In h) (G : h.Ns mainGlobals mg) {t_LEAST_PLACES : Tok} {t_MOST_PLACES : Tok} {f0 : Addr} {od0 an0 : Option Addr} {sl0 : Array (Option Value)} {oc0 kV0 dc0 pm0 ct0 : Value} {cd0 : Value} {f1 : Addr} {od1 an1 : Option Addr} {sl1 : Array (Option Value)} {oc1 kV1 dc1 pm1 ct1 : Value} {cd1 : Value} {f2 : Addr} {od2 an2 : Option Addr} {sl2 : Array (Option Value)} {oc2 kV2 dc2 pm2 ct2 : Value} {cd2 : Value} {f3 : Addr} {od3 an3 : Option Addr} {sl3 : Array (Option Value)} {oc3 kV3 dc3 pm3 ct3 : Value} {cd3 : Value} {f4 : Addr} {od4 an4 : Option Addr} {sl4 : Array (Option Value)} {oc4 kV4 dc4 pm4 ct4 : Value} {cd4 : Value} {f5 : Addr} {od5 an5 : Option Addr} {sl5 : Array (Option Value)} {oc5 kV5 dc5 pm5 ct5 : Value} {cd5 : Value} {f6 : Addr} {od6 an6 : Option Addr} {sl6 : Array (Option Value)} {oc6 kV6 dc6 pm6 ct6 : Value} {cd6 : Value} {f7 : Addr} {od7 an7 : Option Addr} {sl7 : Array (Option Value)} {oc7 kV7 dc7 pm7 ct7 : Value} {cd7 : Value} {f8 : Addr} {od8 an8 : Option Addr} {sl8 : Array (Option Value)} {oc8 kV8 dc8 pm8 ct8 : Value} {cd8 : Value} {f9 : Addr} {od9 an9 : Option Addr} {sl9 : Array (Option Value)} {oc9 kV9 dc9 pm9 ct9 : Value} {cd9 : Value} {f10 : Addr} {od10 an10 : Option Addr} {sl10 : Array (Option Value)} {oc10 kV10 dc10 pm10 ct10 : Value} {cd10 : Value} {f11 : Addr} {od11 an11 : Option Addr} {sl11 : Array (Option Value)} {oc11 kV11 dc11 pm11 ct11 : Value} {cd11 : Value} {f12 : Addr} {od12 an12 : Option Addr} {sl12 : Array (Option Value)} {oc12 kV12 dc12 pm12 ct12 : Value} {cd12 : Value} {f13 : Addr} {od13 an13 : Option Addr} {sl13 : Array (Option Value)} {oc13 kV13 dc13 pm13 ct13 : Value} {cd13 : Value} {f14 : Addr} {od14 an14 : Option Addr} {sl14 : Array (Option Value)} {oc14 kV14 dc14 pm14 ct14 : Value} {cd14 : Value} {f15 : Addr} {od15 an15 : Option Addr} {sl15 : Array (Option Value)} {oc15 kV15 dc15 pm15 ct15 : Value} {cd15 : Value} {f16 : Addr} {od16 an16 : Option Addr} {sl16 : Array (Option Value)} {oc16 kV16 dc16 pm16 ct16 : Value} {cd16 : Value} {f17 : Addr} {od17 an17 : Option Addr} {sl17 : Array (Option Value)} {oc17 kV17 dc17 pm17 ct17 : Value} {cd17 : Value} {f18 : Addr} {od18 an18 : Option Addr} {sl18 : Array (Option Value)} {oc18 kV18 dc18 pm18 ct18 : Value} {cd18 : Value} {f19 : Addr} {od19 an19 : Option Addr} {sl19 : Array (Option Value)} {oc19 kV19 dc19 pm19 ct19 : Value} {cd19 : Value} {f20 : Addr} {od20 an20 : Option Addr} {sl20 : Array (Option Value)} {oc20 kV20 dc20 pm20 ct20 : Value} {cd20 : Value} {f21 : Addr} {od21 an21 : Option Addr} {sl21 : Array (Option Value)} {oc21 kV21 dc21 pm21 ct21 : Value} {cd21 : Value} {f22 : Addr} {od22 an22 : Option Addr} {sl22 : Array (Option Value)} {oc22 kV22 dc22 pm22 ct22 : Value} {cd22 : Value} {f23 : Addr} {od23 an23 : Option Addr} {sl23 : Array (Option Value)} {oc23 kV23 dc23 pm23 ct23 : Value} {cd23 : Value} {f24 : Addr} {od24 an24 : Option Addr} {sl24 : Array (Option Value)} {oc24 kV24 dc24 pm24 ct24 : Value} {c24 P24 : Addr} {f25 : Addr} {od25 an25 : Option Addr} {sl25 : Array (Option Value)} {oc25 kV25 dc25 pm25 ct25 : Value} {c25 P25 : Addr} {f26 : Addr} {od26 an26 : Option Addr} {sl26 : Array (Option Value)} {oc26 kV26 dc26 pm26 ct26 : Value} {cd26 : Value} {C0 C1 C2 C3 C4 C5 C6 C7 C8 C9 C10 C11 C12 Cs cm fI : Addr} {odI anI : Option Addr} {slI : Array (Option Value)} {ocI kVI dcI pmI ctI : Value} {cdI : Value}
    (g_LEAST_PLACES : PySem.W.nsIn K mainGlobals "LEAST_PLACES" = some (some (.int 3 t_LEAST_PLACES)))
    (g_MOST_PLACES : PySem.W.nsIn K mainGlobals "MOST_PLACES" = some (some (.int 8 t_MOST_PLACES)))
    (z_abs : PySem.W.nsIn K mainGlobals "abs" = some none)
    (z_bool : PySem.W.nsIn K mainGlobals "bool" = some none)
    (z_int : PySem.W.nsIn K mainGlobals "int" = some none)
    (z_isinstance : PySem.W.nsIn K mainGlobals "isinstance" = some none)
    (z_len : PySem.W.nsIn K mainGlobals "len" = some none)
    (z_list : PySem.W.nsIn K mainGlobals "list" = some none)
    (z_max : PySem.W.nsIn K mainGlobals "max" = some none)
    (z_min : PySem.W.nsIn K mainGlobals "min" = some none)
    (z_range : PySem.W.nsIn K mainGlobals "range" = some none)
    (z_set : PySem.W.nsIn K mainGlobals "set" = some none)
    (z_sorted : PySem.W.nsIn K mainGlobals "sorted" = some none)
    (z_str : PySem.W.nsIn K mainGlobals "str" = some none)
    (z_tuple : PySem.W.nsIn K mainGlobals "tuple" = some none)
    (z_zip : PySem.W.nsIn K mainGlobals "zip" = some none)
    (a0 : PySem.W.nsIn K mainGlobals "is_int" = some (some (.ref f0)))
    (l0 : K.lookup f0 = some ⟨oc0, od0, .func (PySem.W.fnOf "is_int" "is_int" (defArgs (top 19)) (defBody (top 19)) (defScope (top 19)) .none kV0 dc0 pm0 an0 cd0 ct0), sl0⟩)
    (c_0 : PySem.W.codeIn K cd0 "is_int" = true)
    (k0 : PySem.W.keepIn K (.ref f0) = true)
    (a1 : PySem.W.nsIn K mainGlobals "rises" = some (some (.ref f1)))
    (l1 : K.lookup f1 = some ⟨oc1, od1, .func (PySem.W.fnOf "rises" "rises" (defArgs (top 20)) (defBody (top 20)) (defScope (top 20)) .none kV1 dc1 pm1 an1 cd1 ct1), sl1⟩)
    (c_1 : PySem.W.codeIn K cd1 "rises" = true)
    (k1 : PySem.W.keepIn K (.ref f1) = true)
    (a2 : PySem.W.nsIn K mainGlobals "is_tie" = some (some (.ref f2)))
    (l2 : K.lookup f2 = some ⟨oc2, od2, .func (PySem.W.fnOf "is_tie" "is_tie" (defArgs (top 21)) (defBody (top 21)) (defScope (top 21)) .none kV2 dc2 pm2 an2 cd2 ct2), sl2⟩)
    (c_2 : PySem.W.codeIn K cd2 "is_tie" = true)
    (k2 : PySem.W.keepIn K (.ref f2) = true)
    (a3 : PySem.W.nsIn K mainGlobals "degrees" = some (some (.ref f3)))
    (l3 : K.lookup f3 = some ⟨oc3, od3, .func (PySem.W.fnOf "degrees" "degrees" (defArgs (top 22)) (defBody (top 22)) (defScope (top 22)) .none kV3 dc3 pm3 an3 cd3 ct3), sl3⟩)
    (c_3 : PySem.W.codeIn K cd3 "degrees" = true)
    (k3 : PySem.W.keepIn K (.ref f3) = true)
    (a4 : PySem.W.nsIn K mainGlobals "is_even" = some (some (.ref f4)))
    (l4 : K.lookup f4 = some ⟨oc4, od4, .func (PySem.W.fnOf "is_even" "is_even" (defArgs (top 23)) (defBody (top 23)) (defScope (top 23)) .none kV4 dc4 pm4 an4 cd4 ct4), sl4⟩)
    (c_4 : PySem.W.codeIn K cd4 "is_even" = true)
    (k4 : PySem.W.keepIn K (.ref f4) = true)
    (a5 : PySem.W.nsIn K mainGlobals "is_web_so" = some (some (.ref f5)))
    (l5 : K.lookup f5 = some ⟨oc5, od5, .func (PySem.W.fnOf "is_web_so" "is_web_so" (defArgs (top 24)) (defBody (top 24)) (defScope (top 24)) .none kV5 dc5 pm5 an5 cd5 ct5), sl5⟩)
    (c_5 : PySem.W.codeIn K cd5 "is_web_so" = true)
    (k5 : PySem.W.keepIn K (.ref f5) = true)
    (a6 : PySem.W.nsIn K mainGlobals "need_web" = some (some (.ref f6)))
    (l6 : K.lookup f6 = some ⟨oc6, od6, .func (PySem.W.fnOf "need_web" "need_web" (defArgs (top 25)) (defBody (top 25)) (defScope (top 25)) .none kV6 dc6 pm6 an6 cd6 ct6), sl6⟩)
    (c_6 : PySem.W.codeIn K cd6 "need_web" = true)
    (k6 : PySem.W.keepIn K (.ref f6) = true)
    (a7 : PySem.W.nsIn K mainGlobals "figure_of" = some (some (.ref f7)))
    (l7 : K.lookup f7 = some ⟨oc7, od7, .func (PySem.W.fnOf "figure_of" "figure_of" (defArgs (top 27)) (defBody (top 27)) (defScope (top 27)) .none kV7 dc7 pm7 an7 cd7 ct7), sl7⟩)
    (c_7 : PySem.W.codeIn K cd7 "figure_of" = true)
    (k7 : PySem.W.keepIn K (.ref f7) = true)
    (a8 : PySem.W.nsIn K mainGlobals "text_of" = some (some (.ref f8)))
    (l8 : K.lookup f8 = some ⟨oc8, od8, .func (PySem.W.fnOf "text_of" "text_of" (defArgs (top 28)) (defBody (top 28)) (defScope (top 28)) .none kV8 dc8 pm8 an8 cd8 ct8), sl8⟩)
    (c_8 : PySem.W.codeIn K cd8 "text_of" = true)
    (k8 : PySem.W.keepIn K (.ref f8) = true)
    (a9 : PySem.W.nsIn K mainGlobals "web_of" = some (some (.ref f9)))
    (l9 : K.lookup f9 = some ⟨oc9, od9, .func (PySem.W.fnOf "web_of" "web_of" (defArgs (top 29)) (defBody (top 29)) (defScope (top 29)) .none kV9 dc9 pm9 an9 cd9 ct9), sl9⟩)
    (c_9 : PySem.W.codeIn K cd9 "web_of" = true)
    (k9 : PySem.W.keepIn K (.ref f9) = true)
    (a10 : PySem.W.nsIn K mainGlobals "web_text" = some (some (.ref f10)))
    (l10 : K.lookup f10 = some ⟨oc10, od10, .func (PySem.W.fnOf "web_text" "web_text" (defArgs (top 30)) (defBody (top 30)) (defScope (top 30)) .none kV10 dc10 pm10 an10 cd10 ct10), sl10⟩)
    (c_10 : PySem.W.codeIn K cd10 "web_text" = true)
    (k10 : PySem.W.keepIn K (.ref f10) = true)
    (a11 : PySem.W.nsIn K mainGlobals "read_web" = some (some (.ref f11)))
    (l11 : K.lookup f11 = some ⟨oc11, od11, .func (PySem.W.fnOf "read_web" "read_web" (defArgs (top 31)) (defBody (top 31)) (defScope (top 31)) .none kV11 dc11 pm11 an11 cd11 ct11), sl11⟩)
    (c_11 : PySem.W.codeIn K cd11 "read_web" = true)
    (k11 : PySem.W.keepIn K (.ref f11) = true)
    (a12 : PySem.W.nsIn K mainGlobals "_law_pot_of" = some (some (.ref f12)))
    (l12 : K.lookup f12 = some ⟨oc12, od12, .func (PySem.W.fnOf "_law_pot_of" "_law_pot_of" (defArgs (top 33)) (defBody (top 33)) (defScope (top 33)) .none kV12 dc12 pm12 an12 cd12 ct12), sl12⟩)
    (c_12 : PySem.W.codeIn K cd12 "_law_pot_of" = true)
    (k12 : PySem.W.keepIn K (.ref f12) = true)
    (a13 : PySem.W.nsIn K mainGlobals "_law_dip" = some (some (.ref f13)))
    (l13 : K.lookup f13 = some ⟨oc13, od13, .func (PySem.W.fnOf "_law_dip" "_law_dip" (defArgs (top 34)) (defBody (top 34)) (defScope (top 34)) .none kV13 dc13 pm13 an13 cd13 ct13), sl13⟩)
    (c_13 : PySem.W.codeIn K cd13 "_law_dip" = true)
    (k13 : PySem.W.keepIn K (.ref f13) = true)
    (a14 : PySem.W.nsIn K mainGlobals "_law_any" = some (some (.ref f14)))
    (l14 : K.lookup f14 = some ⟨oc14, od14, .func (PySem.W.fnOf "_law_any" "_law_any" (defArgs (top 35)) (defBody (top 35)) (defScope (top 35)) .none kV14 dc14 pm14 an14 cd14 ct14), sl14⟩)
    (c_14 : PySem.W.codeIn K cd14 "_law_any" = true)
    (k14 : PySem.W.keepIn K (.ref f14) = true)
    (a15 : PySem.W.nsIn K mainGlobals "_law_are_tied" = some (some (.ref f15)))
    (l15 : K.lookup f15 = some ⟨oc15, od15, .func (PySem.W.fnOf "_law_are_tied" "_law_are_tied" (defArgs (top 36)) (defBody (top 36)) (defScope (top 36)) .none kV15 dc15 pm15 an15 cd15 ct15), sl15⟩)
    (c_15 : PySem.W.codeIn K cd15 "_law_are_tied" = true)
    (k15 : PySem.W.keepIn K (.ref f15) = true)
    (a16 : PySem.W.nsIn K mainGlobals "_law_round" = some (some (.ref f16)))
    (l16 : K.lookup f16 = some ⟨oc16, od16, .func (PySem.W.fnOf "_law_round" "_law_round" (defArgs (top 37)) (defBody (top 37)) (defScope (top 37)) .none kV16 dc16 pm16 an16 cd16 ct16), sl16⟩)
    (c_16 : PySem.W.codeIn K cd16 "_law_round" = true)
    (k16 : PySem.W.keepIn K (.ref f16) = true)
    (a17 : PySem.W.nsIn K mainGlobals "_law_fours" = some (some (.ref f17)))
    (l17 : K.lookup f17 = some ⟨oc17, od17, .func (PySem.W.fnOf "_law_fours" "_law_fours" (defArgs (top 38)) (defBody (top 38)) (defScope (top 38)) .none kV17 dc17 pm17 an17 cd17 ct17), sl17⟩)
    (c_17 : PySem.W.codeIn K cd17 "_law_fours" = true)
    (k17 : PySem.W.keepIn K (.ref f17) = true)
    (a18 : PySem.W.nsIn K mainGlobals "_law_behind" = some (some (.ref f18)))
    (l18 : K.lookup f18 = some ⟨oc18, od18, .func (PySem.W.fnOf "_law_behind" "_law_behind" (defArgs (top 39)) (defBody (top 39)) (defScope (top 39)) .none kV18 dc18 pm18 an18 cd18 ct18), sl18⟩)
    (c_18 : PySem.W.codeIn K cd18 "_law_behind" = true)
    (k18 : PySem.W.keepIn K (.ref f18) = true)
    (a19 : PySem.W.nsIn K mainGlobals "_law_drawn" = some (some (.ref f19)))
    (l19 : K.lookup f19 = some ⟨oc19, od19, .func (PySem.W.fnOf "_law_drawn" "_law_drawn" (defArgs (top 40)) (defBody (top 40)) (defScope (top 40)) .none kV19 dc19 pm19 an19 cd19 ct19), sl19⟩)
    (c_19 : PySem.W.codeIn K cd19 "_law_drawn" = true)
    (k19 : PySem.W.keepIn K (.ref f19) = true)
    (a20 : PySem.W.nsIn K mainGlobals "_law_kind_of" = some (some (.ref f20)))
    (l20 : K.lookup f20 = some ⟨oc20, od20, .func (PySem.W.fnOf "_law_kind_of" "_law_kind_of" (defArgs (top 42)) (defBody (top 42)) (defScope (top 42)) .none kV20 dc20 pm20 an20 cd20 ct20), sl20⟩)
    (c_20 : PySem.W.codeIn K cd20 "_law_kind_of" = true)
    (k20 : PySem.W.keepIn K (.ref f20) = true)
    (a21 : PySem.W.nsIn K mainGlobals "_law_text" = some (some (.ref f21)))
    (l21 : K.lookup f21 = some ⟨oc21, od21, .func (PySem.W.fnOf "_law_text" "_law_text" (defArgs (top 43)) (defBody (top 43)) (defScope (top 43)) .none kV21 dc21 pm21 an21 cd21 ct21), sl21⟩)
    (c_21 : PySem.W.codeIn K cd21 "_law_text" = true)
    (k21 : PySem.W.keepIn K (.ref f21) = true)
    (a22 : PySem.W.nsIn K mainGlobals "_law_due" = some (some (.ref f22)))
    (l22 : K.lookup f22 = some ⟨oc22, od22, .func (PySem.W.fnOf "_law_due" "_law_due" (defArgs (top 44)) (defBody (top 44)) (defScope (top 44)) .none kV22 dc22 pm22 an22 cd22 ct22), sl22⟩)
    (c_22 : PySem.W.codeIn K cd22 "_law_due" = true)
    (k22 : PySem.W.keepIn K (.ref f22) = true)
    (a23 : PySem.W.nsIn K mainGlobals "_law_bent" = some (some (.ref f23)))
    (l23 : K.lookup f23 = some ⟨oc23, od23, .func (PySem.W.fnOf "_law_bent" "_law_bent" (defArgs (top 45)) (defBody (top 45)) (defScope (top 45)) .none kV23 dc23 pm23 an23 cd23 ct23), sl23⟩)
    (c_23 : PySem.W.codeIn K cd23 "_law_bent" = true)
    (k23 : PySem.W.keepIn K (.ref f23) = true)
    (a24 : PySem.W.nsIn K mainGlobals "_law_read_right" = some (some (.ref f24)))
    (l24 : K.lookup f24 = some ⟨oc24, od24, .func (PySem.W.fnOf "_law_read_right" "_law_read_right" (defArgs (top 46)) (defBody (top 46)) (defScope (top 46)) .none kV24 dc24 pm24 an24 (.ref c24) ct24), sl24⟩)
    (c_24 : PySem.W.codeIn K (.ref c24) "_law_read_right" = true)
    (k24 : PySem.W.keepIn K (.ref f24) = true)
    (tb24 : LamX.TabB base mg c24 P24)
    (a25 : PySem.W.nsIn K mainGlobals "law" = some (some (.ref f25)))
    (l25 : K.lookup f25 = some ⟨oc25, od25, .func (PySem.W.fnOf "law" "law" (defArgs (top 47)) (defBody (top 47)) (defScope (top 47)) .none kV25 dc25 pm25 an25 (.ref c25) ct25), sl25⟩)
    (c_25 : PySem.W.codeIn K (.ref c25) "law" = true)
    (k25 : PySem.W.keepIn K (.ref f25) = true)
    (tb25 : LamX.TabB base mg c25 P25)
    (a26 : PySem.W.nsIn K mainGlobals "_law_word" = some (some (.ref f26)))
    (l26 : K.lookup f26 = some ⟨oc26, od26, .func (PySem.W.fnOf "_law_word" "_law_word" (defArgs (top 41)) (defBody (top 41)) (defScope (top 41)) .none kV26 dc26 pm26 an26 cd26 ct26), sl26⟩)
    (c_26 : PySem.W.codeIn K cd26 "_law_word" = true)
    (k26 : PySem.W.keepIn K (.ref f26) = true)
    (e0 : PySem.W.nsIn K mainGlobals "InvalidWeb" = some (some (.ref C0)))
    (e1 : PySem.W.nsIn K mainGlobals "InvalidLot" = some (some (.ref C1)))
    (e2 : PySem.W.nsIn K mainGlobals "InvalidPlace" = some (some (.ref C2)))
    (e3 : PySem.W.nsIn K mainGlobals "InvalidKind" = some (some (.ref C3)))
    (e4 : PySem.W.nsIn K mainGlobals "InvalidBound" = some (some (.ref C4)))
    (e5 : PySem.W.nsIn K mainGlobals "InvalidNumber" = some (some (.ref C5)))
    (e6 : PySem.W.nsIn K mainGlobals "InvalidTies" = some (some (.ref C6)))
    (e7 : PySem.W.nsIn K mainGlobals "InvalidSteps" = some (some (.ref C7)))
    (e8 : PySem.W.nsIn K mainGlobals "InvalidFacts" = some (some (.ref C8)))
    (e9 : PySem.W.nsIn K mainGlobals "InvalidSwitch" = some (some (.ref C9)))
    (e10 : PySem.W.nsIn K mainGlobals "InvalidText" = some (some (.ref C10)))
    (e11 : PySem.W.nsIn K mainGlobals "Unlike" = some (some (.ref C11)))
    (e12 : PySem.W.nsIn K mainGlobals "NothingToUndo" = some (some (.ref C12)))
    (es : PySem.W.nsIn K mainGlobals "SpreadError" = some (some (.ref Cs)))
    (em : PySem.W.nsIn K mainGlobals "TooMany" = some (some (.ref cm)))
    (ei : PySem.W.findIn K (.ref cm) "__init__" = some (some (.ref fI)))
    (eo : ownB K [("InvalidWeb", C0), ("InvalidLot", C1), ("InvalidPlace", C2), ("InvalidKind", C3), ("InvalidBound", C4), ("InvalidNumber", C5), ("InvalidTies", C6), ("InvalidSteps", C7), ("InvalidFacts", C8), ("InvalidSwitch", C9), ("InvalidText", C10), ("Unlike", C11), ("NothingToUndo", C12)] Cs cm = true)
    (el : limB K cm fI = true)
    (er1 : PySem.W.readsIn K Cs (.type "type") = true)
    (er2 : PySem.W.specialIn K (.ref Cs) "__getattribute__" = some (some (.builtin "type.__getattribute__")))
    (er3 : PySem.W.findCls K (.ref Cs) (.type "type") "__init__" = some (.val (.builtin "ValueError.__init__")))
    (lI : K.lookup fI = some ⟨ocI, odI, .func (PySem.W.fnOf "__init__" "TooMany.__init__" (defArgs (inClass (top 15) 0)) (defBody (inClass (top 15) 0)) (defScope (inClass (top 15) 0)) .none kVI dcI pmI anI cdI ctI), slI⟩)
    (c_I : PySem.W.codeIn K cdI "TooMany.__init__" = true)
    (kI : PySem.W.keepIn K (.ref fI) = true)
    (hnd : ([(P24, lamName "_law_read_right"), (P25, lamName "law")].map (·.1)).Nodup) : Txt (Be K [(P24, lamName "_law_read_right"), (P25, lamName "law")] (clOf [("InvalidWeb", C0), ("InvalidLot", C1), ("InvalidPlace", C2), ("InvalidKind", C3), ("InvalidBound", C4), ("InvalidNumber", C5), ("InvalidTies", C6), ("InvalidSteps", C7), ("InvalidFacts", C8), ("InvalidSwitch", C9), ("InvalidText", C10), ("Unlike", C11), ("NothingToUndo", C12)]) cm) P w mg base [(P24, lamName "_law_read_right"), (P25, lamName "law")] [("InvalidWeb", C0), ("InvalidLot", C1), ("InvalidPlace", C2), ("InvalidKind", C3), ("InvalidBound", C4), ("InvalidNumber", C5), ("InvalidTies", C6), ("InvalidSteps", C7), ("InvalidFacts", C8), ("InvalidSwitch", C9), ("InvalidText", C10), ("Unlike", C11), ("NothingToUndo", C12)] cm := by
  have uq : ∀ p ∈ ([(P24, lamName "_law_read_right"), (P25, lamName "law")] : List (Addr × Str)), ∀ q ∈ ([(P24, lamName "_law_read_right"), (P25, lamName "law")] : List (Addr × Str)), p.1 = q.1 → p.2 = q.2 := uniq_of hnd
  exact {
    c_LEAST_PLACES := ⟨_, PySem.W.mg_of X G g_LEAST_PLACES⟩
    c_MOST_PLACES := ⟨_, PySem.W.mg_of X G g_MOST_PLACES⟩
    z_abs := PySem.W.mg_none_of X G z_abs
    z_bool := PySem.W.mg_none_of X G z_bool
    z_int := PySem.W.mg_none_of X G z_int
    z_isinstance := PySem.W.mg_none_of X G z_isinstance
    z_len := PySem.W.mg_none_of X G z_len
    z_list := PySem.W.mg_none_of X G z_list
    z_max := PySem.W.mg_none_of X G z_max
    z_min := PySem.W.mg_none_of X G z_min
    z_range := PySem.W.mg_none_of X G z_range
    z_set := PySem.W.mg_none_of X G z_set
    z_sorted := PySem.W.mg_none_of X G z_sorted
    z_str := PySem.W.mg_none_of X G z_str
    z_tuple := PySem.W.mg_none_of X G z_tuple
    z_zip := PySem.W.mg_none_of X G z_zip
    d_is_int := ⟨_, _, fun_mk (st := (top 19)) l0 c_0 k0, (fun_mk (st := (top 19)) l0 c_0 k0).binds (ps := ["value", "low", "high"]) fun _ _ _ _ _ _ us hl => match us, hl with | [_, _, _], _ => rfl, PySem.W.mg_of X G a0⟩
    d_rises := ⟨_, _, fun_mk (st := (top 20)) l1 c_1 k1, (fun_mk (st := (top 20)) l1 c_1 k1).binds (ps := ["items"]) fun _ _ _ _ _ _ us hl => match us, hl with | [_], _ => rfl, PySem.W.mg_of X G a1⟩
    d_is_tie := ⟨_, _, fun_mk (st := (top 21)) l2 c_2 k2, (fun_mk (st := (top 21)) l2 c_2 k2).binds (ps := ["places", "value"]) fun _ _ _ _ _ _ us hl => match us, hl with | [_, _], _ => rfl, PySem.W.mg_of X G a2⟩
    d_degrees := ⟨_, _, fun_mk (st := (top 22)) l3 c_3 k3, (fun_mk (st := (top 22)) l3 c_3 k3).binds (ps := ["places", "ties"]) fun _ _ _ _ _ _ us hl => match us, hl with | [_, _], _ => rfl, PySem.W.mg_of X G a3⟩
    d_is_even := ⟨_, _, fun_mk (st := (top 23)) l4 c_4 k4, (fun_mk (st := (top 23)) l4 c_4 k4).binds (ps := ["places", "ties"]) fun _ _ _ _ _ _ us hl => match us, hl with | [_, _], _ => rfl, PySem.W.mg_of X G a4⟩
    d_is_web_so := ⟨_, _, fun_mk (st := (top 24)) l5 c_5 k5, (fun_mk (st := (top 24)) l5 c_5 k5).binds (ps := ["value"]) fun _ _ _ _ _ _ us hl => match us, hl with | [_], _ => rfl, PySem.W.mg_of X G a5⟩
    d_need_web := ⟨_, _, fun_mk (st := (top 25)) l6 c_6 k6, (fun_mk (st := (top 25)) l6 c_6 k6).binds (ps := ["value"]) fun _ _ _ _ _ _ us hl => match us, hl with | [_], _ => rfl, PySem.W.mg_of X G a6⟩
    d_figure_of := ⟨_, _, fun_mk (st := (top 27)) l7 c_7 k7, (fun_mk (st := (top 27)) l7 c_7 k7).binds (ps := ["word"]) fun _ _ _ _ _ _ us hl => match us, hl with | [_], _ => rfl, PySem.W.mg_of X G a7⟩
    d_text_of := ⟨_, _, fun_mk (st := (top 28)) l8 c_8 k8, (fun_mk (st := (top 28)) l8 c_8 k8).binds (ps := ["web"]) fun _ _ _ _ _ _ us hl => match us, hl with | [_], _ => rfl, PySem.W.mg_of X G a8⟩
    d_web_of := ⟨_, _, fun_mk (st := (top 29)) l9 c_9 k9, (fun_mk (st := (top 29)) l9 c_9 k9).binds (ps := ["value"]) fun _ _ _ _ _ _ us hl => match us, hl with | [_], _ => rfl, PySem.W.mg_of X G a9⟩
    d_web_text := ⟨_, _, fun_mk (st := (top 30)) l10 c_10 k10, (fun_mk (st := (top 30)) l10 c_10 k10).binds (ps := ["web"]) fun _ _ _ _ _ _ us hl => match us, hl with | [_], _ => rfl, PySem.W.mg_of X G a10⟩
    d_read_web := ⟨_, _, fun_mk (st := (top 31)) l11 c_11 k11, (fun_mk (st := (top 31)) l11 c_11 k11).binds (ps := ["value"]) fun _ _ _ _ _ _ us hl => match us, hl with | [_], _ => rfl, PySem.W.mg_of X G a11⟩
    d__law_pot_of := ⟨_, _, fun_mk (st := (top 33)) l12 c_12 k12, (fun_mk (st := (top 33)) l12 c_12 k12).binds (ps := ["script", "k"]) fun _ _ _ _ _ _ us hl => match us, hl with | [_, _], _ => rfl, PySem.W.mg_of X G a12⟩
    d__law_dip := ⟨_, _, fun_mk (st := (top 34)) l13 c_13 k13, (fun_mk (st := (top 34)) l13 c_13 k13).binds (ps := ["pot", "many"]) fun _ _ _ _ _ _ us hl => match us, hl with | [_, _], _ => rfl, PySem.W.mg_of X G a13⟩
    d__law_any := ⟨_, _, fun_mk (st := (top 35)) l14 c_14 k14, (fun_mk (st := (top 35)) l14 c_14 k14).binds (ps := ["pot", "things"]) fun _ _ _ _ _ _ us hl => match us, hl with | [_, _], _ => rfl, PySem.W.mg_of X G a14⟩
    d__law_are_tied := ⟨_, _, fun_mk (st := (top 36)) l15 c_15 k15, (fun_mk (st := (top 36)) l15 c_15 k15).binds (ps := ["grid", "one", "other"]) fun _ _ _ _ _ _ us hl => match us, hl with | [_, _, _], _ => rfl, PySem.W.mg_of X G a15⟩
    d__law_round := ⟨_, _, fun_mk (st := (top 37)) l16 c_16 k16, (fun_mk (st := (top 37)) l16 c_16 k16).binds (ps := ["many", "paces"]) fun _ _ _ _ _ _ us hl => match us, hl with | [_, _], _ => rfl, PySem.W.mg_of X G a16⟩
    d__law_fours := ⟨_, _, fun_mk (st := (top 38)) l17 c_17 k17, (fun_mk (st := (top 38)) l17 c_17 k17).binds (ps := ["grid"]) fun _ _ _ _ _ _ us hl => match us, hl with | [_], _ => rfl, PySem.W.mg_of X G a17⟩
    d__law_behind := ⟨_, _, fun_mk (st := (top 39)) l18 c_18 k18, (fun_mk (st := (top 39)) l18 c_18 k18).binds (ps := ["grid", "four"]) fun _ _ _ _ _ _ us hl => match us, hl with | [_, _], _ => rfl, PySem.W.mg_of X G a18⟩
    d__law_drawn := ⟨_, _, fun_mk (st := (top 40)) l19 c_19 k19, (fun_mk (st := (top 40)) l19 c_19 k19).binds (ps := ["pot", "low", "high"]) fun _ _ _ _ _ _ us hl => match us, hl with | [_, _, _], _ => rfl, PySem.W.mg_of X G a19⟩
    d__law_kind_of := ⟨_, _, fun_mk (st := (top 42)) l20 c_20 k20, (fun_mk (st := (top 42)) l20 c_20 k20).binds (ps := ["e"]) fun _ _ _ _ _ _ us hl => match us, hl with | [_], _ => rfl, PySem.W.mg_of X G a20⟩
    d__law_text := ⟨_, _, fun_mk (st := (top 43)) l21 c_21 k21, (fun_mk (st := (top 43)) l21 c_21 k21).binds (ps := ["grid"]) fun _ _ _ _ _ _ us hl => match us, hl with | [_], _ => rfl, PySem.W.mg_of X G a21⟩
    d__law_due := ⟨_, _, fun_mk (st := (top 44)) l22 c_22 k22, (fun_mk (st := (top 44)) l22 c_22 k22).binds (ps := ["text"]) fun _ _ _ _ _ _ us hl => match us, hl with | [_], _ => rfl, PySem.W.mg_of X G a22⟩
    d__law_bent := ⟨_, _, fun_mk (st := (top 45)) l23 c_23 k23, (fun_mk (st := (top 45)) l23 c_23 k23).binds (ps := ["pot", "text"]) fun _ _ _ _ _ _ us hl => match us, hl with | [_, _], _ => rfl, PySem.W.mg_of X G a23⟩
    dl__law_read_right := ⟨_, _, _, _, _, _, _, c24, P24, _, _, l24, c_24, k24, (fun_mk (st := (top 46)) l24 c_24 k24).binds (ps := ["text"]) (fun _ _ _ _ _ _ us hl => match us, hl with | [_], _ => rfl), PySem.W.mg_of X G a24, tb24, by simp, fun p hp e => uq p hp (P24, lamName "_law_read_right") (by simp) e⟩
    dl_law := ⟨_, _, _, _, _, _, _, c25, P25, _, _, l25, c_25, k25, (fun_mk (st := (top 47)) l25 c_25 k25).binds (ps := ["script"]) (fun _ _ _ _ _ _ us hl => match us, hl with | [_], _ => rfl), PySem.W.mg_of X G a25, tb25, by simp, fun p hp e => uq p hp (P25, lamName "law") (by simp) e⟩
    dw := ⟨_, _, _, _, _, _, _, _, _, _, PySem.W.mg_of X G a26, k26, l26, c_26⟩
    er := ⟨Cs, fI, ⟨fun nm C h => by simp only [List.mem_cons, Prod.mk.injEq, List.not_mem_nil, or_false] at h; rcases h with ⟨rfl, rfl⟩ | ⟨rfl, rfl⟩ | ⟨rfl, rfl⟩ | ⟨rfl, rfl⟩ | ⟨rfl, rfl⟩ | ⟨rfl, rfl⟩ | ⟨rfl, rfl⟩ | ⟨rfl, rfl⟩ | ⟨rfl, rfl⟩ | ⟨rfl, rfl⟩ | ⟨rfl, rfl⟩ | ⟨rfl, rfl⟩ | ⟨rfl, rfl⟩; exact PySem.W.mg_of X G e0; exact PySem.W.mg_of X G e1; exact PySem.W.mg_of X G e2; exact PySem.W.mg_of X G e3; exact PySem.W.mg_of X G e4; exact PySem.W.mg_of X G e5; exact PySem.W.mg_of X G e6; exact PySem.W.mg_of X G e7; exact PySem.W.mg_of X G e8; exact PySem.W.mg_of X G e9; exact PySem.W.mg_of X G e10; exact PySem.W.mg_of X G e11; exact PySem.W.mg_of X G e12, eo⟩, ⟨PySem.W.mg_of X G em, el⟩, PySem.W.mg_of X G es⟩
    nms := fun m h => by simp only [errNames, List.mem_cons, List.not_mem_nil, or_false] at h; rcases h with rfl | rfl | rfl | rfl | rfl | rfl | rfl | rfl | rfl | rfl | rfl | rfl | rfl; exact ⟨C0, rfl⟩; exact ⟨C1, rfl⟩; exact ⟨C2, rfl⟩; exact ⟨C3, rfl⟩; exact ⟨C4, rfl⟩; exact ⟨C5, rfl⟩; exact ⟨C6, rfl⟩; exact ⟨C7, rfl⟩; exact ⟨C8, rfl⟩; exact ⟨C9, rfl⟩; exact ⟨C10, rfl⟩; exact ⟨C11, rfl⟩; exact ⟨C12, rfl⟩
    beq := rfl
    lim := Lims.limE ⟨PySem.W.mg_of X G em, el⟩ (lim_init (st := (inClass (top 15) 0)) (fun_mk lI c_I kI) ⟨rfl, rfl, rfl, by decide +kernel, rfl, by decide +kernel, by decide +kernel⟩ rfl rfl rfl rfl rfl (PySem.W.mg_of X G es) ⟨er1, er2⟩ er3 (PySem.W.mg_none_of X G z_str) (fun _ => rfl)) ((fun_mk (st := (inClass (top 15) 0)) lI c_I kI).binds (ps := ["self", "limit"]) fun _ _ _ _ _ _ us hl => match us, hl with | [_, _], _ => rfl)
  }
theorem foot {l : PySem.W.OpenLaw} {q : Program} {w : World} {K : PySem.W.Frag} {h : Heap} {mg : Str → Option Value} {fa : Addr} (X : K.In h) (G : h.Ns mainGlobals mg) (hfa : mg "law" = some (.ref fa)) (TT : TopTabs q mg K h) {t_LEAST_PLACES : Tok} {t_MOST_PLACES : Tok} {f0 : Addr} {od0 an0 : Option Addr} {sl0 : Array (Option Value)} {oc0 kV0 dc0 pm0 ct0 : Value} {cd0 : Value} {f1 : Addr} {od1 an1 : Option Addr} {sl1 : Array (Option Value)} {oc1 kV1 dc1 pm1 ct1 : Value} {cd1 : Value} {f2 : Addr} {od2 an2 : Option Addr} {sl2 : Array (Option Value)} {oc2 kV2 dc2 pm2 ct2 : Value} {cd2 : Value} {f3 : Addr} {od3 an3 : Option Addr} {sl3 : Array (Option Value)} {oc3 kV3 dc3 pm3 ct3 : Value} {cd3 : Value} {f4 : Addr} {od4 an4 : Option Addr} {sl4 : Array (Option Value)} {oc4 kV4 dc4 pm4 ct4 : Value} {cd4 : Value} {f5 : Addr} {od5 an5 : Option Addr} {sl5 : Array (Option Value)} {oc5 kV5 dc5 pm5 ct5 : Value} {cd5 : Value} {f6 : Addr} {od6 an6 : Option Addr} {sl6 : Array (Option Value)} {oc6 kV6 dc6 pm6 ct6 : Value} {cd6 : Value} {f7 : Addr} {od7 an7 : Option Addr} {sl7 : Array (Option Value)} {oc7 kV7 dc7 pm7 ct7 : Value} {cd7 : Value} {f8 : Addr} {od8 an8 : Option Addr} {sl8 : Array (Option Value)} {oc8 kV8 dc8 pm8 ct8 : Value} {cd8 : Value} {f9 : Addr} {od9 an9 : Option Addr} {sl9 : Array (Option Value)} {oc9 kV9 dc9 pm9 ct9 : Value} {cd9 : Value} {f10 : Addr} {od10 an10 : Option Addr} {sl10 : Array (Option Value)} {oc10 kV10 dc10 pm10 ct10 : Value} {cd10 : Value} {f11 : Addr} {od11 an11 : Option Addr} {sl11 : Array (Option Value)} {oc11 kV11 dc11 pm11 ct11 : Value} {cd11 : Value} {f12 : Addr} {od12 an12 : Option Addr} {sl12 : Array (Option Value)} {oc12 kV12 dc12 pm12 ct12 : Value} {cd12 : Value} {f13 : Addr} {od13 an13 : Option Addr} {sl13 : Array (Option Value)} {oc13 kV13 dc13 pm13 ct13 : Value} {cd13 : Value} {f14 : Addr} {od14 an14 : Option Addr} {sl14 : Array (Option Value)} {oc14 kV14 dc14 pm14 ct14 : Value} {cd14 : Value} {f15 : Addr} {od15 an15 : Option Addr} {sl15 : Array (Option Value)} {oc15 kV15 dc15 pm15 ct15 : Value} {cd15 : Value} {f16 : Addr} {od16 an16 : Option Addr} {sl16 : Array (Option Value)} {oc16 kV16 dc16 pm16 ct16 : Value} {cd16 : Value} {f17 : Addr} {od17 an17 : Option Addr} {sl17 : Array (Option Value)} {oc17 kV17 dc17 pm17 ct17 : Value} {cd17 : Value} {f18 : Addr} {od18 an18 : Option Addr} {sl18 : Array (Option Value)} {oc18 kV18 dc18 pm18 ct18 : Value} {cd18 : Value} {f19 : Addr} {od19 an19 : Option Addr} {sl19 : Array (Option Value)} {oc19 kV19 dc19 pm19 ct19 : Value} {cd19 : Value} {f20 : Addr} {od20 an20 : Option Addr} {sl20 : Array (Option Value)} {oc20 kV20 dc20 pm20 ct20 : Value} {cd20 : Value} {f21 : Addr} {od21 an21 : Option Addr} {sl21 : Array (Option Value)} {oc21 kV21 dc21 pm21 ct21 : Value} {cd21 : Value} {f22 : Addr} {od22 an22 : Option Addr} {sl22 : Array (Option Value)} {oc22 kV22 dc22 pm22 ct22 : Value} {cd22 : Value} {f23 : Addr} {od23 an23 : Option Addr} {sl23 : Array (Option Value)} {oc23 kV23 dc23 pm23 ct23 : Value} {cd23 : Value} {f24 : Addr} {od24 an24 : Option Addr} {sl24 : Array (Option Value)} {oc24 kV24 dc24 pm24 ct24 : Value} {c24 P24 : Addr} {f25 : Addr} {od25 an25 : Option Addr} {sl25 : Array (Option Value)} {oc25 kV25 dc25 pm25 ct25 : Value} {c25 P25 : Addr} {f26 : Addr} {od26 an26 : Option Addr} {sl26 : Array (Option Value)} {oc26 kV26 dc26 pm26 ct26 : Value} {cd26 : Value} {C0 C1 C2 C3 C4 C5 C6 C7 C8 C9 C10 C11 C12 Cs cm fI : Addr} {odI anI : Option Addr} {slI : Array (Option Value)} {ocI kVI dcI pmI ctI : Value} {cdI : Value} {oo24 : Value} {on24 : Option Addr} {ov24 : Array Value} {os24 : Array (Option Value)} {oo25 : Value} {on25 : Option Addr} {ov25 : Array Value} {os25 : Array (Option Value)}
    (g_LEAST_PLACES : PySem.W.nsIn K mainGlobals "LEAST_PLACES" = some (some (.int 3 t_LEAST_PLACES)))
    (g_MOST_PLACES : PySem.W.nsIn K mainGlobals "MOST_PLACES" = some (some (.int 8 t_MOST_PLACES)))
    (z_abs : PySem.W.nsIn K mainGlobals "abs" = some none)
    (z_bool : PySem.W.nsIn K mainGlobals "bool" = some none)
    (z_int : PySem.W.nsIn K mainGlobals "int" = some none)
    (z_isinstance : PySem.W.nsIn K mainGlobals "isinstance" = some none)
    (z_len : PySem.W.nsIn K mainGlobals "len" = some none)
    (z_list : PySem.W.nsIn K mainGlobals "list" = some none)
    (z_max : PySem.W.nsIn K mainGlobals "max" = some none)
    (z_min : PySem.W.nsIn K mainGlobals "min" = some none)
    (z_range : PySem.W.nsIn K mainGlobals "range" = some none)
    (z_set : PySem.W.nsIn K mainGlobals "set" = some none)
    (z_sorted : PySem.W.nsIn K mainGlobals "sorted" = some none)
    (z_str : PySem.W.nsIn K mainGlobals "str" = some none)
    (z_tuple : PySem.W.nsIn K mainGlobals "tuple" = some none)
    (z_zip : PySem.W.nsIn K mainGlobals "zip" = some none)
    (a0 : PySem.W.nsIn K mainGlobals "is_int" = some (some (.ref f0)))
    (l0 : K.lookup f0 = some ⟨oc0, od0, .func (PySem.W.fnOf "is_int" "is_int" (defArgs (top 19)) (defBody (top 19)) (defScope (top 19)) .none kV0 dc0 pm0 an0 cd0 ct0), sl0⟩)
    (c_0 : PySem.W.codeIn K cd0 "is_int" = true)
    (k0 : PySem.W.keepIn K (.ref f0) = true)
    (a1 : PySem.W.nsIn K mainGlobals "rises" = some (some (.ref f1)))
    (l1 : K.lookup f1 = some ⟨oc1, od1, .func (PySem.W.fnOf "rises" "rises" (defArgs (top 20)) (defBody (top 20)) (defScope (top 20)) .none kV1 dc1 pm1 an1 cd1 ct1), sl1⟩)
    (c_1 : PySem.W.codeIn K cd1 "rises" = true)
    (k1 : PySem.W.keepIn K (.ref f1) = true)
    (a2 : PySem.W.nsIn K mainGlobals "is_tie" = some (some (.ref f2)))
    (l2 : K.lookup f2 = some ⟨oc2, od2, .func (PySem.W.fnOf "is_tie" "is_tie" (defArgs (top 21)) (defBody (top 21)) (defScope (top 21)) .none kV2 dc2 pm2 an2 cd2 ct2), sl2⟩)
    (c_2 : PySem.W.codeIn K cd2 "is_tie" = true)
    (k2 : PySem.W.keepIn K (.ref f2) = true)
    (a3 : PySem.W.nsIn K mainGlobals "degrees" = some (some (.ref f3)))
    (l3 : K.lookup f3 = some ⟨oc3, od3, .func (PySem.W.fnOf "degrees" "degrees" (defArgs (top 22)) (defBody (top 22)) (defScope (top 22)) .none kV3 dc3 pm3 an3 cd3 ct3), sl3⟩)
    (c_3 : PySem.W.codeIn K cd3 "degrees" = true)
    (k3 : PySem.W.keepIn K (.ref f3) = true)
    (a4 : PySem.W.nsIn K mainGlobals "is_even" = some (some (.ref f4)))
    (l4 : K.lookup f4 = some ⟨oc4, od4, .func (PySem.W.fnOf "is_even" "is_even" (defArgs (top 23)) (defBody (top 23)) (defScope (top 23)) .none kV4 dc4 pm4 an4 cd4 ct4), sl4⟩)
    (c_4 : PySem.W.codeIn K cd4 "is_even" = true)
    (k4 : PySem.W.keepIn K (.ref f4) = true)
    (a5 : PySem.W.nsIn K mainGlobals "is_web_so" = some (some (.ref f5)))
    (l5 : K.lookup f5 = some ⟨oc5, od5, .func (PySem.W.fnOf "is_web_so" "is_web_so" (defArgs (top 24)) (defBody (top 24)) (defScope (top 24)) .none kV5 dc5 pm5 an5 cd5 ct5), sl5⟩)
    (c_5 : PySem.W.codeIn K cd5 "is_web_so" = true)
    (k5 : PySem.W.keepIn K (.ref f5) = true)
    (a6 : PySem.W.nsIn K mainGlobals "need_web" = some (some (.ref f6)))
    (l6 : K.lookup f6 = some ⟨oc6, od6, .func (PySem.W.fnOf "need_web" "need_web" (defArgs (top 25)) (defBody (top 25)) (defScope (top 25)) .none kV6 dc6 pm6 an6 cd6 ct6), sl6⟩)
    (c_6 : PySem.W.codeIn K cd6 "need_web" = true)
    (k6 : PySem.W.keepIn K (.ref f6) = true)
    (a7 : PySem.W.nsIn K mainGlobals "figure_of" = some (some (.ref f7)))
    (l7 : K.lookup f7 = some ⟨oc7, od7, .func (PySem.W.fnOf "figure_of" "figure_of" (defArgs (top 27)) (defBody (top 27)) (defScope (top 27)) .none kV7 dc7 pm7 an7 cd7 ct7), sl7⟩)
    (c_7 : PySem.W.codeIn K cd7 "figure_of" = true)
    (k7 : PySem.W.keepIn K (.ref f7) = true)
    (a8 : PySem.W.nsIn K mainGlobals "text_of" = some (some (.ref f8)))
    (l8 : K.lookup f8 = some ⟨oc8, od8, .func (PySem.W.fnOf "text_of" "text_of" (defArgs (top 28)) (defBody (top 28)) (defScope (top 28)) .none kV8 dc8 pm8 an8 cd8 ct8), sl8⟩)
    (c_8 : PySem.W.codeIn K cd8 "text_of" = true)
    (k8 : PySem.W.keepIn K (.ref f8) = true)
    (a9 : PySem.W.nsIn K mainGlobals "web_of" = some (some (.ref f9)))
    (l9 : K.lookup f9 = some ⟨oc9, od9, .func (PySem.W.fnOf "web_of" "web_of" (defArgs (top 29)) (defBody (top 29)) (defScope (top 29)) .none kV9 dc9 pm9 an9 cd9 ct9), sl9⟩)
    (c_9 : PySem.W.codeIn K cd9 "web_of" = true)
    (k9 : PySem.W.keepIn K (.ref f9) = true)
    (a10 : PySem.W.nsIn K mainGlobals "web_text" = some (some (.ref f10)))
    (l10 : K.lookup f10 = some ⟨oc10, od10, .func (PySem.W.fnOf "web_text" "web_text" (defArgs (top 30)) (defBody (top 30)) (defScope (top 30)) .none kV10 dc10 pm10 an10 cd10 ct10), sl10⟩)
    (c_10 : PySem.W.codeIn K cd10 "web_text" = true)
    (k10 : PySem.W.keepIn K (.ref f10) = true)
    (a11 : PySem.W.nsIn K mainGlobals "read_web" = some (some (.ref f11)))
    (l11 : K.lookup f11 = some ⟨oc11, od11, .func (PySem.W.fnOf "read_web" "read_web" (defArgs (top 31)) (defBody (top 31)) (defScope (top 31)) .none kV11 dc11 pm11 an11 cd11 ct11), sl11⟩)
    (c_11 : PySem.W.codeIn K cd11 "read_web" = true)
    (k11 : PySem.W.keepIn K (.ref f11) = true)
    (a12 : PySem.W.nsIn K mainGlobals "_law_pot_of" = some (some (.ref f12)))
    (l12 : K.lookup f12 = some ⟨oc12, od12, .func (PySem.W.fnOf "_law_pot_of" "_law_pot_of" (defArgs (top 33)) (defBody (top 33)) (defScope (top 33)) .none kV12 dc12 pm12 an12 cd12 ct12), sl12⟩)
    (c_12 : PySem.W.codeIn K cd12 "_law_pot_of" = true)
    (k12 : PySem.W.keepIn K (.ref f12) = true)
    (a13 : PySem.W.nsIn K mainGlobals "_law_dip" = some (some (.ref f13)))
    (l13 : K.lookup f13 = some ⟨oc13, od13, .func (PySem.W.fnOf "_law_dip" "_law_dip" (defArgs (top 34)) (defBody (top 34)) (defScope (top 34)) .none kV13 dc13 pm13 an13 cd13 ct13), sl13⟩)
    (c_13 : PySem.W.codeIn K cd13 "_law_dip" = true)
    (k13 : PySem.W.keepIn K (.ref f13) = true)
    (a14 : PySem.W.nsIn K mainGlobals "_law_any" = some (some (.ref f14)))
    (l14 : K.lookup f14 = some ⟨oc14, od14, .func (PySem.W.fnOf "_law_any" "_law_any" (defArgs (top 35)) (defBody (top 35)) (defScope (top 35)) .none kV14 dc14 pm14 an14 cd14 ct14), sl14⟩)
    (c_14 : PySem.W.codeIn K cd14 "_law_any" = true)
    (k14 : PySem.W.keepIn K (.ref f14) = true)
    (a15 : PySem.W.nsIn K mainGlobals "_law_are_tied" = some (some (.ref f15)))
    (l15 : K.lookup f15 = some ⟨oc15, od15, .func (PySem.W.fnOf "_law_are_tied" "_law_are_tied" (defArgs (top 36)) (defBody (top 36)) (defScope (top 36)) .none kV15 dc15 pm15 an15 cd15 ct15), sl15⟩)
    (c_15 : PySem.W.codeIn K cd15 "_law_are_tied" = true)
    (k15 : PySem.W.keepIn K (.ref f15) = true)
    (a16 : PySem.W.nsIn K mainGlobals "_law_round" = some (some (.ref f16)))
    (l16 : K.lookup f16 = some ⟨oc16, od16, .func (PySem.W.fnOf "_law_round" "_law_round" (defArgs (top 37)) (defBody (top 37)) (defScope (top 37)) .none kV16 dc16 pm16 an16 cd16 ct16), sl16⟩)
    (c_16 : PySem.W.codeIn K cd16 "_law_round" = true)
    (k16 : PySem.W.keepIn K (.ref f16) = true)
    (a17 : PySem.W.nsIn K mainGlobals "_law_fours" = some (some (.ref f17)))
    (l17 : K.lookup f17 = some ⟨oc17, od17, .func (PySem.W.fnOf "_law_fours" "_law_fours" (defArgs (top 38)) (defBody (top 38)) (defScope (top 38)) .none kV17 dc17 pm17 an17 cd17 ct17), sl17⟩)
    (c_17 : PySem.W.codeIn K cd17 "_law_fours" = true)
    (k17 : PySem.W.keepIn K (.ref f17) = true)
    (a18 : PySem.W.nsIn K mainGlobals "_law_behind" = some (some (.ref f18)))
    (l18 : K.lookup f18 = some ⟨oc18, od18, .func (PySem.W.fnOf "_law_behind" "_law_behind" (defArgs (top 39)) (defBody (top 39)) (defScope (top 39)) .none kV18 dc18 pm18 an18 cd18 ct18), sl18⟩)
    (c_18 : PySem.W.codeIn K cd18 "_law_behind" = true)
    (k18 : PySem.W.keepIn K (.ref f18) = true)
    (a19 : PySem.W.nsIn K mainGlobals "_law_drawn" = some (some (.ref f19)))
    (l19 : K.lookup f19 = some ⟨oc19, od19, .func (PySem.W.fnOf "_law_drawn" "_law_drawn" (defArgs (top 40)) (defBody (top 40)) (defScope (top 40)) .none kV19 dc19 pm19 an19 cd19 ct19), sl19⟩)
    (c_19 : PySem.W.codeIn K cd19 "_law_drawn" = true)
    (k19 : PySem.W.keepIn K (.ref f19) = true)
    (a20 : PySem.W.nsIn K mainGlobals "_law_kind_of" = some (some (.ref f20)))
    (l20 : K.lookup f20 = some ⟨oc20, od20, .func (PySem.W.fnOf "_law_kind_of" "_law_kind_of" (defArgs (top 42)) (defBody (top 42)) (defScope (top 42)) .none kV20 dc20 pm20 an20 cd20 ct20), sl20⟩)
    (c_20 : PySem.W.codeIn K cd20 "_law_kind_of" = true)
    (k20 : PySem.W.keepIn K (.ref f20) = true)
    (a21 : PySem.W.nsIn K mainGlobals "_law_text" = some (some (.ref f21)))
    (l21 : K.lookup f21 = some ⟨oc21, od21, .func (PySem.W.fnOf "_law_text" "_law_text" (defArgs (top 43)) (defBody (top 43)) (defScope (top 43)) .none kV21 dc21 pm21 an21 cd21 ct21), sl21⟩)
    (c_21 : PySem.W.codeIn K cd21 "_law_text" = true)
    (k21 : PySem.W.keepIn K (.ref f21) = true)
    (a22 : PySem.W.nsIn K mainGlobals "_law_due" = some (some (.ref f22)))
    (l22 : K.lookup f22 = some ⟨oc22, od22, .func (PySem.W.fnOf "_law_due" "_law_due" (defArgs (top 44)) (defBody (top 44)) (defScope (top 44)) .none kV22 dc22 pm22 an22 cd22 ct22), sl22⟩)
    (c_22 : PySem.W.codeIn K cd22 "_law_due" = true)
    (k22 : PySem.W.keepIn K (.ref f22) = true)
    (a23 : PySem.W.nsIn K mainGlobals "_law_bent" = some (some (.ref f23)))
    (l23 : K.lookup f23 = some ⟨oc23, od23, .func (PySem.W.fnOf "_law_bent" "_law_bent" (defArgs (top 45)) (defBody (top 45)) (defScope (top 45)) .none kV23 dc23 pm23 an23 cd23 ct23), sl23⟩)
    (c_23 : PySem.W.codeIn K cd23 "_law_bent" = true)
    (k23 : PySem.W.keepIn K (.ref f23) = true)
    (a24 : PySem.W.nsIn K mainGlobals "_law_read_right" = some (some (.ref f24)))
    (l24 : K.lookup f24 = some ⟨oc24, od24, .func (PySem.W.fnOf "_law_read_right" "_law_read_right" (defArgs (top 46)) (defBody (top 46)) (defScope (top 46)) .none kV24 dc24 pm24 an24 (.ref c24) ct24), sl24⟩)
    (c_24 : PySem.W.codeIn K (.ref c24) "_law_read_right" = true)
    (k24 : PySem.W.keepIn K (.ref f24) = true)
    (a25 : PySem.W.nsIn K mainGlobals "law" = some (some (.ref f25)))
    (l25 : K.lookup f25 = some ⟨oc25, od25, .func (PySem.W.fnOf "law" "law" (defArgs (top 47)) (defBody (top 47)) (defScope (top 47)) .none kV25 dc25 pm25 an25 (.ref c25) ct25), sl25⟩)
    (c_25 : PySem.W.codeIn K (.ref c25) "law" = true)
    (k25 : PySem.W.keepIn K (.ref f25) = true)
    (a26 : PySem.W.nsIn K mainGlobals "_law_word" = some (some (.ref f26)))
    (l26 : K.lookup f26 = some ⟨oc26, od26, .func (PySem.W.fnOf "_law_word" "_law_word" (defArgs (top 41)) (defBody (top 41)) (defScope (top 41)) .none kV26 dc26 pm26 an26 cd26 ct26), sl26⟩)
    (c_26 : PySem.W.codeIn K cd26 "_law_word" = true)
    (k26 : PySem.W.keepIn K (.ref f26) = true)
    (e0 : PySem.W.nsIn K mainGlobals "InvalidWeb" = some (some (.ref C0)))
    (e1 : PySem.W.nsIn K mainGlobals "InvalidLot" = some (some (.ref C1)))
    (e2 : PySem.W.nsIn K mainGlobals "InvalidPlace" = some (some (.ref C2)))
    (e3 : PySem.W.nsIn K mainGlobals "InvalidKind" = some (some (.ref C3)))
    (e4 : PySem.W.nsIn K mainGlobals "InvalidBound" = some (some (.ref C4)))
    (e5 : PySem.W.nsIn K mainGlobals "InvalidNumber" = some (some (.ref C5)))
    (e6 : PySem.W.nsIn K mainGlobals "InvalidTies" = some (some (.ref C6)))
    (e7 : PySem.W.nsIn K mainGlobals "InvalidSteps" = some (some (.ref C7)))
    (e8 : PySem.W.nsIn K mainGlobals "InvalidFacts" = some (some (.ref C8)))
    (e9 : PySem.W.nsIn K mainGlobals "InvalidSwitch" = some (some (.ref C9)))
    (e10 : PySem.W.nsIn K mainGlobals "InvalidText" = some (some (.ref C10)))
    (e11 : PySem.W.nsIn K mainGlobals "Unlike" = some (some (.ref C11)))
    (e12 : PySem.W.nsIn K mainGlobals "NothingToUndo" = some (some (.ref C12)))
    (es : PySem.W.nsIn K mainGlobals "SpreadError" = some (some (.ref Cs)))
    (em : PySem.W.nsIn K mainGlobals "TooMany" = some (some (.ref cm)))
    (ei : PySem.W.findIn K (.ref cm) "__init__" = some (some (.ref fI)))
    (eo : ownB K [("InvalidWeb", C0), ("InvalidLot", C1), ("InvalidPlace", C2), ("InvalidKind", C3), ("InvalidBound", C4), ("InvalidNumber", C5), ("InvalidTies", C6), ("InvalidSteps", C7), ("InvalidFacts", C8), ("InvalidSwitch", C9), ("InvalidText", C10), ("Unlike", C11), ("NothingToUndo", C12)] Cs cm = true)
    (el : limB K cm fI = true)
    (er1 : PySem.W.readsIn K Cs (.type "type") = true)
    (er2 : PySem.W.specialIn K (.ref Cs) "__getattribute__" = some (some (.builtin "type.__getattribute__")))
    (er3 : PySem.W.findCls K (.ref Cs) (.type "type") "__init__" = some (.val (.builtin "ValueError.__init__")))
    (lI : K.lookup fI = some ⟨ocI, odI, .func (PySem.W.fnOf "__init__" "TooMany.__init__" (defArgs (inClass (top 15) 0)) (defBody (inClass (top 15) 0)) (defScope (inClass (top 15) 0)) .none kVI dcI pmI anI cdI ctI), slI⟩)
    (c_I : PySem.W.codeIn K cdI "TooMany.__init__" = true)
    (kI : PySem.W.keepIn K (.ref fI) = true)
    (n24 : K.lookup P24 = none) (o24 : K.lookup c24 = some ⟨oo24, on24, .fields ov24, os24⟩) (v24 : ov24[11]? = some (.ref P24)) (r24 : ((recsOf q).any fun e => e.name == ("_law_read_right" : Str)) = true) (n25 : K.lookup P25 = none) (o25 : K.lookup c25 = some ⟨oo25, on25, .fields ov25, os25⟩) (v25 : ov25[11]? = some (.ref P25)) (r25 : ((recsOf q).any fun e => e.name == ("law" : Str)) = true)
    (hnd : ([(P24, lamName "_law_read_right"), (P25, lamName "law")].map (·.1)).Nodup) : LamX.LawAtS l w K (L2N.CX l.prog w) 13 63 "script" mg fa h := by
  have e0 := PySem.W.mg_of X G a25
  rw [hfa] at e0
  cases e0
  have q24 := TT "_law_read_right" r24 _ _ _ _ _ _ _ (PySem.W.mg_of X G a24) l24 rfl rfl o24 rfl v24
  have q25 := TT "law" r25 _ _ _ _ _ _ _ (PySem.W.mg_of X G a25) l25 rfl rfl o25 rfl v25
  refine ⟨(PySem.W.fnOf "law" "law" (defArgs (top 47)) (defBody (top 47)) (defScope (top 47)) .none kV25 dc25 pm25 an25 (.ref c25) ct25), [(c24, P24), (c25, P25)], spOf (Be K [(P24, lamName "_law_read_right"), (P25, lamName "law")] (clOf [("InvalidWeb", C0), ("InvalidLot", C1), ("InvalidPlace", C2), ("InvalidKind", C3), ("InvalidBound", C4), ("InvalidNumber", C5), ("InvalidTies", C6), ("InvalidSteps", C7), ("InvalidFacts", C8), ("InvalidSwitch", C9), ("InvalidText", C10), ("Unlike", C11), ("NothingToUndo", C12)]) cm) (mD r_law), fun p hp => by simp only [List.mem_cons, List.not_mem_nil, or_false] at hp; rcases hp with rfl | rfl; exact q24.2; exact q25.2, fun p hp => by simp only [List.mem_cons, List.not_mem_nil, or_false] at hp; rcases hp with rfl | rfl; exact n24; exact n25, fun p hp => by simp only [List.mem_cons, List.not_mem_nil, or_false] at hp; rcases hp with rfl | rfl; exact q24.1; exact q25.1, fun s u => .of_eq rfl, fun H a ns hl hb hT hS => spOf_lawT (fun p hp => by simp only [List.mem_cons, List.not_mem_nil, or_false] at hp; rcases hp with rfl | rfl; exact hT (c24, P24) (by simp); exact hT (c25, P25) (by simp)) hS hl (v_law hl), fun base hK hG hTB => ?_⟩
  have T := txt_mk (P := l.prog) (w := w) (base := base) X G g_LEAST_PLACES g_MOST_PLACES z_abs z_bool z_int z_isinstance z_len z_list z_max z_min z_range z_set z_sorted z_str z_tuple z_zip a0 l0 c_0 k0 a1 l1 c_1 k1 a2 l2 c_2 k2 a3 l3 c_3 k3 a4 l4 c_4 k4 a5 l5 c_5 k5 a6 l6 c_6 k6 a7 l7 c_7 k7 a8 l8 c_8 k8 a9 l9 c_9 k9 a10 l10 c_10 k10 a11 l11 c_11 k11 a12 l12 c_12 k12 a13 l13 c_13 k13 a14 l14 c_14 k14 a15 l15 c_15 k15 a16 l16 c_16 k16 a17 l17 c_17 k17 a18 l18 c_18 k18 a19 l19 c_19 k19 a20 l20 c_20 k20 a21 l21 c_21 k21 a22 l22 c_22 k22 a23 l23 c_23 k23 a24 l24 c_24 k24 (hTB (c24, P24) (by simp)) a25 l25 c_25 k25 (hTB (c25, P25) (by simp)) a26 l26 c_26 k26 e0 e1 e2 e3 e4 e5 e6 e7 e8 e9 e10 e11 e12 es em ei eo el er1 er2 er3 lI c_I kI hnd
  exact law_fn T (fun_mk (st := (top 47)) l25 c_25 k25) (c := c25) (P1 := P25) (code_at l25) (hTB (c25, P25) (by simp)) (by simp) fun p hp e => uniq_of hnd p hp (P25, lamName "law") (by simp) e
end K12
open PySem PySem.W PyProof.Rows in
set_option maxRecDepth 100000 in
set_option maxHeartbeats 0 in
theorem PySem.Challenge.cw_spreadwebs_k12_whole_texts_of_webs_holds : PySem.Challenge.rw_spreadwebs_k12_whole_texts_of_webs.Holds := by
  w_on; o_law; k_head; (case hw => w_witness2)
  k_fill
  refine Rf.walk_ofTop (l := PySem.Challenge.rw_spreadwebs_k12_whole_texts_of_webs) (n := 63) (k := 13) (CX := fun w => L2N.CX PySem.Challenge.rw_spreadwebs_k12_whole_texts_of_webs.prog w) (x := "script") rfl (by decide) rfl ⟨rfl, by decide, by decide⟩ (fun w h Y => PySem.W.km_in_of Y) ?F fun w H s e s' z => Rf.cxN_none z
  case F =>
    intro w mg fa h Y KX G hmg TT
    refine' K12.foot KX G hmg TT ?g_LEAST_PLACES ?g_MOST_PLACES ?z_abs ?z_bool ?z_int ?z_isinstance ?z_len ?z_list ?z_max ?z_min ?z_range ?z_set ?z_sorted ?z_str ?z_tuple ?z_zip ?a0 ?l0 ?c_0 ?k0 ?a1 ?l1 ?c_1 ?k1 ?a2 ?l2 ?c_2 ?k2 ?a3 ?l3 ?c_3 ?k3 ?a4 ?l4 ?c_4 ?k4 ?a5 ?l5 ?c_5 ?k5 ?a6 ?l6 ?c_6 ?k6 ?a7 ?l7 ?c_7 ?k7 ?a8 ?l8 ?c_8 ?k8 ?a9 ?l9 ?c_9 ?k9 ?a10 ?l10 ?c_10 ?k10 ?a11 ?l11 ?c_11 ?k11 ?a12 ?l12 ?c_12 ?k12 ?a13 ?l13 ?c_13 ?k13 ?a14 ?l14 ?c_14 ?k14 ?a15 ?l15 ?c_15 ?k15 ?a16 ?l16 ?c_16 ?k16 ?a17 ?l17 ?c_17 ?k17 ?a18 ?l18 ?c_18 ?k18 ?a19 ?l19 ?c_19 ?k19 ?a20 ?l20 ?c_20 ?k20 ?a21 ?l21 ?c_21 ?k21 ?a22 ?l22 ?c_22 ?k22 ?a23 ?l23 ?c_23 ?k23 ?a24 ?l24 ?c_24 ?k24 ?a25 ?l25 ?c_25 ?k25 ?a26 ?l26 ?c_26 ?k26 ?e0 ?e1 ?e2 ?e3 ?e4 ?e5 ?e6 ?e7 ?e8 ?e9 ?e10 ?e11 ?e12 ?es ?em ?ei ?eo ?el ?er1 ?er2 ?er3 ?lI ?c_I ?kI ?n24 ?o24 ?v24 ?r24 ?n25 ?o25 ?v25 ?r25 ?hnd
    (case g_LEAST_PLACES => k_is)
    (case g_MOST_PLACES => k_is)
    (case z_abs => k_is)
    (case z_bool => k_is)
    (case z_int => k_is)
    (case z_isinstance => k_is)
    (case z_len => k_is)
    (case z_list => k_is)
    (case z_max => k_is)
    (case z_min => k_is)
    (case z_range => k_is)
    (case z_set => k_is)
    (case z_sorted => k_is)
    (case z_str => k_is)
    (case z_tuple => k_is)
    (case z_zip => k_is)
    (case a0 => k_is)
    (case l0 => k_is)
    (case c_0 => k_is)
    (case k0 => k_is)
    (case a1 => k_is)
    (case l1 => k_is)
    (case c_1 => k_is)
    (case k1 => k_is)
    (case a2 => k_is)
    (case l2 => k_is)
    (case c_2 => k_is)
    (case k2 => k_is)
    (case a3 => k_is)
    (case l3 => k_is)
    (case c_3 => k_is)
    (case k3 => k_is)
    (case a4 => k_is)
    (case l4 => k_is)
    (case c_4 => k_is)
    (case k4 => k_is)
    (case a5 => k_is)
    (case l5 => k_is)
    (case c_5 => k_is)
    (case k5 => k_is)
    (case a6 => k_is)
    (case l6 => k_is)
    (case c_6 => k_is)
    (case k6 => k_is)
    (case a7 => k_is)
    (case l7 => k_is)
    (case c_7 => k_is)
    (case k7 => k_is)
    (case a8 => k_is)
    (case l8 => k_is)
    (case c_8 => k_is)
    (case k8 => k_is)
    (case a9 => k_is)
    (case l9 => k_is)
    (case c_9 => k_is)
    (case k9 => k_is)
    (case a10 => k_is)
    (case l10 => k_is)
    (case c_10 => k_is)
    (case k10 => k_is)
    (case a11 => k_is)
    (case l11 => k_is)
    (case c_11 => k_is)
    (case k11 => k_is)
    (case a12 => k_is)
    (case l12 => k_is)
    (case c_12 => k_is)
    (case k12 => k_is)
    (case a13 => k_is)
    (case l13 => k_is)
    (case c_13 => k_is)
    (case k13 => k_is)
    (case a14 => k_is)
    (case l14 => k_is)
    (case c_14 => k_is)
    (case k14 => k_is)
    (case a15 => k_is)
    (case l15 => k_is)
    (case c_15 => k_is)
    (case k15 => k_is)
    (case a16 => k_is)
    (case l16 => k_is)
    (case c_16 => k_is)
    (case k16 => k_is)
    (case a17 => k_is)
    (case l17 => k_is)
    (case c_17 => k_is)
    (case k17 => k_is)
    (case a18 => k_is)
    (case l18 => k_is)
    (case c_18 => k_is)
    (case k18 => k_is)
    (case a19 => k_is)
    (case l19 => k_is)
    (case c_19 => k_is)
    (case k19 => k_is)
    (case a20 => k_is)
    (case l20 => k_is)
    (case c_20 => k_is)
    (case k20 => k_is)
    (case a21 => k_is)
    (case l21 => k_is)
    (case c_21 => k_is)
    (case k21 => k_is)
    (case a22 => k_is)
    (case l22 => k_is)
    (case c_22 => k_is)
    (case k22 => k_is)
    (case a23 => k_is)
    (case l23 => k_is)
    (case c_23 => k_is)
    (case k23 => k_is)
    (case a24 => k_is)
    (case l24 => k_is)
    (case c_24 => k_is)
    (case k24 => k_is)
    (case a25 => k_is)
    (case l25 => k_is)
    (case c_25 => k_is)
    (case k25 => k_is)
    (case a26 => k_is)
    (case l26 => k_is)
    (case c_26 => k_is)
    (case k26 => k_is)
    (case e0 => k_is)
    (case e1 => k_is)
    (case e2 => k_is)
    (case e3 => k_is)
    (case e4 => k_is)
    (case e5 => k_is)
    (case e6 => k_is)
    (case e7 => k_is)
    (case e8 => k_is)
    (case e9 => k_is)
    (case e10 => k_is)
    (case e11 => k_is)
    (case e12 => k_is)
    (case es => k_is)
    (case em => k_is)
    (case ei => k_is)
    (case eo => kernel_rfl)
    (case el => kernel_rfl)
    (case er1 => k_is)
    (case er2 => k_is)
    (case er3 => k_is)
    (case lI => k_is)
    (case c_I => k_is)
    (case kI => k_is)
    (case o24 => k_is)
    (case v24 => rfl)
    (case n24 => kernel_rfl)
    (case r24 => kernel_rfl)
    (case o25 => k_is)
    (case v25 => rfl)
    (case n25 => kernel_rfl)
    (case r25 => kernel_rfl)
    (case hnd => decide)
