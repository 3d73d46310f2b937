import PyProof.Rows.All
import Wide.All
import OpenK.AllK
import Wide.FinOn
import HandS.Hot
import HandS.HotCalls
import HandS.Comp
import HandS.ExcCtx
import HandS.Lambda
import HandS.ExcInit
import HandS.ClsMeth
import HandS.Text
import HandS.Words
import HandS.ExcIs
import HandS.ForMost
import HandS.ForExc
import HandS.TupSets
import HandS.TupAny
import HandS.TupMul
import HandS.Wide
import HandS.Deep
import HandS.Style
import HandS.IsInst
import HandS.SortInts
import HandS.ExcField
import HandS.ExcInitHot
import HandS.Zip
import HandS.CallSlots
import HandS.Strs
import HandS.TupLen
import HandS.Ends
import HandS.EndTab
import HandS.ExcValue
import KE.KExcIs
import KE.KExcStr
import PySem.Challenge.RW_spreadwebs_k17_error_classes
set_option Elab.async false
set_option linter.all false
set_option maxRecDepth 100000
set_option maxHeartbeats 4000000
/-! # walks and comprehensions while an exception is handled -/
namespace HotY
open PySem PySem.Spec PyProof.Rows HotX
section
variable {prog : Program} {w : World} {A : Around} {E : Value → Shared → Prop} {s : Shared}
theorem pyNext_list_end_hot {it l x1 : Addr} {i : Nat} {items} {Q : Option Value → Shared → Prop} (hot : HotAt A x1 s.heap) (hne : x1 ≠ it)
    (hit : s.heap.IsListIter it l i) (hl : s.heap.IsList l items) (hx : items[i]? = none)
    (hQ : ∀ h', Heap.ExtBut it s.heap h' → Q none { s with heap := h' }) : wpAny (model prog w) A (pyNext (.ref it)) Q E s := by
  obtain ⟨o, ho, hc, hd⟩ := id hit
  obtain ⟨ol, hol, _, nl, hdl⟩ := hl
  unfold pyNext
  refine wpAny_bind (wpAny_attempt (wpAny_callSpecial?_slot (name := Str.ofString "__next__") hit.typeIs slot_listiter_next
    (wpAny_call_entry slot_listiter_next hit.typeIs entry_listiter_next ?_ (args_listiter_next _))))
  show wpAny _ _ (field (.ref it) 0 >>= _) _ _ s
  refine wpAny_bind (wpAny_field ho hd (x := .ref l) rfl ?_)
  show wpAny _ _ (if (Value.ref l == Value.none) = true then _ else _) _ _ s
  rw [if_neg (show ¬ ((Value.ref l == Value.none) = true) from Bool.false_ne_true)]
  show wpAny _ _ (field (.ref it) 1 >>= _) _ _ s
  refine wpAny_bind (wpAny_field ho hd (x := .int i 0) rfl ?_)
  show wpAny _ _ (seqItems? (.ref l) >>= _) _ _ s
  refine wpAny_bind (wpAny_seqItems hol hdl ?_)
  simp only [Int.toNat_natCast, hx]
  refine wpAny_bind (wpAny_rule (wpAny_bind (wpAny_setField ho hd (by simp) ?_)))
  show wpAny _ _ (newExc (.type "StopIteration") [] >>= _) _ _ _
  refine wpAny_bind ?_
  simp only [newExc, newTuple]
  refine wpAny_bind (wpAny_newObj_type ?_ (by size_fits))
  refine wpAny_bind (m := firstArgMember _ _) (wpAny_of_eq (a := Value.none) (by first | rfl | (simp only [firstArgMember]; rfl)) ?_)
  refine wpAny_newObj_type ?_ (by size_fits)
  obtain ⟨hh, o1, vs1, h1, d1, c1⟩ := hot
  have h1' : ∀ f, (s.heap.update it (Obj.mapFields f)).get? x1 = some o1 := fun f => by rw [Heap.get?_update_other _ _ (Ne.symm hne)]; exact h1
  refine raiseNew_hot ⟨hh, o1, vs1, Heap.get?_push_of_some _ (Heap.get?_push_of_some _ (h1' _)), d1, c1⟩ (Nat.ne_of_lt (Heap.lt_size (Heap.get?_push_of_some _ (h1' _)))) (Heap.get?_push_size _ rfl) rfl (by first | (simp; done) | (simp; omega) | (simp only [Array.size_append]; simp; omega)) ?_
  refine wpAny_bind (wpAny_isInstance (T := "StopIteration") (b := true) ⟨_, Heap.get?_update_self _ (Heap.get?_push_size _ rfl) rfl, rfl⟩ isSubtype_stop ?_)
  refine wpAny_pure (hQ _ fun b u hb e => ?_)
  have e' : ∀ f, (s.heap.update it (Obj.mapFields f)).get? b = some u := fun f => by rw [Heap.get?_update_other _ _ (Ne.symm hb)]; exact e
  rw [Heap.get?_update_other _ _ (Nat.ne_of_gt (Heap.lt_size (Heap.get?_push_of_some _ (e' _))))]
  exact Heap.get?_push_of_some _ (Heap.get?_push_of_some _ (e' _))
theorem next_tuple_end_hot {it t x1 : Addr} {i : Nat} {items} {Q : Option Value → Shared → Prop} (hot : HotAt A x1 s.heap) (hne : x1 ≠ it)
    (hit : IsTupIter s.heap it t i) (ht : IsTup s.heap t items) (hx : items[i]? = none)
    (hQ : ∀ h', Heap.ExtBut it s.heap h' → Q none { s with heap := h' }) : wpAny (model prog w) A (pyNext (.ref it)) Q E s := by
  obtain ⟨o, ho, hc, hd⟩ := id hit
  obtain ⟨ol, hol, _, nl, hdl⟩ := ht
  unfold pyNext
  refine wpAny_bind (wpAny_attempt (wpAny_callSpecial?_slot (name := Str.ofString "__next__") hit.typeIs slot_tupleiter_next
    (wpAny_call_entry slot_tupleiter_next hit.typeIs entry_tupleiter_next ?_ (args_tupleiter_next _))))
  show wpAny _ _ (field (.ref it) 0 >>= _) _ _ s
  refine wpAny_bind (wpAny_field ho hd (x := .ref t) rfl ?_)
  show wpAny _ _ (if (Value.ref t == Value.none) = true then _ else _) _ _ s
  rw [if_neg (show ¬ ((Value.ref t == Value.none) = true) from Bool.false_ne_true)]
  show wpAny _ _ (field (.ref it) 1 >>= _) _ _ s
  refine wpAny_bind (wpAny_field ho hd (x := .int i 0) rfl ?_)
  show wpAny _ _ (seqItems? (.ref t) >>= _) _ _ s
  refine wpAny_bind (wpAny_seqItems hol hdl ?_)
  simp only [Int.toNat_natCast, hx]
  refine wpAny_bind (wpAny_rule (wpAny_bind (wpAny_setField ho hd (by simp) ?_)))
  show wpAny _ _ (newExc (.type "StopIteration") [] >>= _) _ _ _
  refine wpAny_bind ?_
  simp only [newExc, newTuple]
  refine wpAny_bind (wpAny_newObj_type ?_ (by size_fits))
  refine wpAny_bind (m := firstArgMember _ _) (wpAny_of_eq (a := Value.none) (by first | rfl | (simp only [firstArgMember]; rfl)) ?_)
  refine wpAny_newObj_type ?_ (by size_fits)
  obtain ⟨hh, o1, vs1, h1, d1, c1⟩ := hot
  have h1' : ∀ f, (s.heap.update it (Obj.mapFields f)).get? x1 = some o1 := fun f => by rw [Heap.get?_update_other _ _ (Ne.symm hne)]; exact h1
  refine raiseNew_hot ⟨hh, o1, vs1, Heap.get?_push_of_some _ (Heap.get?_push_of_some _ (h1' _)), d1, c1⟩ (Nat.ne_of_lt (Heap.lt_size (Heap.get?_push_of_some _ (h1' _)))) (Heap.get?_push_size _ rfl) rfl (by first | (simp; done) | (simp; omega) | (simp only [Array.size_append]; simp; omega)) ?_
  refine wpAny_bind (wpAny_isInstance (T := "StopIteration") (b := true) ⟨_, Heap.get?_update_self _ (Heap.get?_push_size _ rfl) rfl, rfl⟩ isSubtype_stop ?_)
  refine wpAny_pure (hQ _ fun b u hb e => ?_)
  have e' : ∀ f, (s.heap.update it (Obj.mapFields f)).get? b = some u := fun f => by rw [Heap.get?_update_other _ _ (Ne.symm hb)]; exact e
  rw [Heap.get?_update_other _ _ (Nat.ne_of_gt (Heap.lt_size (Heap.get?_push_of_some _ (e' _))))]
  exact Heap.get?_push_of_some _ (Heap.get?_push_of_some _ (e' _))
theorem _root_.HotX.HotAt.ext {x1 : Addr} {h h' : Heap} (c : HotAt A x1 h) (k : ∀ o, h.get? x1 = some o → h'.get? x1 = some o) : HotAt A x1 h' :=
  let ⟨hh, o, vs, e, d, c⟩ := c
  ⟨hh, o, vs, k o e, d, c⟩
theorem _root_.HotX.HotAt.lt {x1 : Addr} {h : Heap} (c : HotAt A x1 h) : x1 < h.objs.size := let ⟨_, _, _, e, _⟩ := c; Heap.lt_size e
theorem unpackItems_tuple_hot {t x1 : Addr} {items : Array Value} {Q : List Value → Shared → Prop} (hot : HotAt A x1 s.heap) (ht : IsTup s.heap t items)
    (hQ : ∀ h', Heap.ExtBut s.heap.objs.size s.heap h' → Q items.toList { s with heap := h' }) : wpAny (model prog w) A (unpackItems (.ref t) items.size none) Q E s := by
  have hlt : t ≠ s.heap.objs.size := by obtain ⟨o, ho, _⟩ := ht; exact Nat.ne_of_lt (Heap.lt_size ho)
  have hx : x1 ≠ s.heap.objs.size := Nat.ne_of_lt hot.lt
  unfold unpackItems
  refine wpAny_bind ?_
  · unfold notIterableAtAll
    refine wpAny_bind (wpAny_specialOf ht.typeIs slot_tuple_iter.lookup ?_)
    refine wpAny_pure ?_
    simp only [Bool.false_eq_true, if_false]
    refine wpAny_bind (wpAny_holding (iter_tuple ht ?_))
    refine wpAny_bind (wpAny_holding (draw_tuple hlt items.size 0 _ _ ⟨_, Heap.get?_push_size _ rfl, rfl, rfl⟩ (ht.push _) (by omega) fun h₁ hit₁ hs₁ => ?_))
    have hall : List.take items.size (List.drop 0 items.toList) = items.toList := by
      rw [List.drop_zero]; exact List.take_of_length_le (by simp)
    rw [hall]
    rw [if_neg (by simp)]
    have ht₁ : IsTup h₁ t items := (ht.push _).extBut hs₁.extBut hlt
    have hot₁ : HotAt A x1 h₁ := hot.ext fun o e => hs₁.extBut x1 o hx (Heap.get?_push_of_some _ e)
    refine wpAny_bind (wpAny_holding (next_tuple_end_hot (s := { s with heap := h₁ }) hot₁ hx hit₁ ht₁ (by simp) fun h₂ he₂ => ?_))
    simp only [Option.isSome_none, Bool.false_eq_true, if_false]
    refine wpAny_pure (hQ h₂ fun b o hb e => he₂ b o hb (hs₁.extBut b o hb (Heap.get?_push_of_some _ e)))
theorem assign_Tuple_tuple_hot {env : Env} {elts : List Expr} {x1} {pos : Pos} {t x2 : Addr} {items : Array Value} {Q : Unit → Shared → Prop} (hot : HotAt A x2 s.heap) (ht : IsTup s.heap t items)
    (hn : (assignEach elts env).length = items.size) (hstar : (assignEach elts env).findIdx? (·.1) = none)
    (h : ∀ h', Heap.ExtBut s.heap.objs.size s.heap h' → wpAny (model prog w) A (assignInOrder ((assignEach elts env).map (·.2)) items.toList) Q E { s with heap := h' }) :
    wpAny (model prog w) A (assign (.Tuple elts x1 pos) env (.ref t)) Q E s := by
  rw [assign_Tuple]
  refine wpAny_bind (wpAny_standAt ?_)
  unfold unpack
  rw [hn, hstar]
  exact wpAny_bind (wpAny_holding (unpackItems_tuple_hot hot ht h))
end

/-! ### hot contexts -/
open L2
/-- an exception is handled, that stood at the entry already; its context is None -/
def HotS (X : Cx) : Prop := ∃ (x1 : Addr) (o : Obj) (vs : Array Value), X.A.handled = some (.ref x1) ∧ X.s_0.heap.get? x1 = some o ∧ o.data = .fields vs ∧ vs[2]? = some .none ∧ X.H_0 x1 = none ∧ x1 ∉ X.fs ∧ x1 ∉ X.ex
theorem HotS.at {X : Cx} {pins : List (Addr × Obj)} {σ : L2.St} {H : L2.Hp} {s : Shared} (c : HotS X) (I : L2.Inv X pins σ H s) : ∃ x1, HotAt X.A x1 s.heap ∧ H x1 = none ∧ x1 < X.s_0.heap.objs.size ∧ x1 ∉ X.ex := by
  obtain ⟨x1, o, vs, hh, e, d, c, n, nf, nx⟩ := c
  exact ⟨x1, ⟨hh, o, vs, I.base.keep x1 o e n nf nx, d, c⟩, I.base.free x1 o e n nx, Heap.lt_size e, nx⟩
/-- an iterator's own objects are not the handled exception -/
theorem HotS.ne {X : Cx} {pins : List (Addr × Obj)} {σ : L2.St} {H : L2.Hp} {s : Shared} {b x1 : Addr} (l : x1 < X.s_0.heap.objs.size) (nx : x1 ∉ X.ex) (f : FpOk X pins H b) : x1 ≠ b := by
  rintro rfl
  rcases f.2.2.2.1 with z | z
  · exact nx z
  · exact absurd (Nat.lt_of_lt_of_le l z) (Nat.lt_irrefl _)
theorem HotS.blk {X : Cx} {pins : List (Addr × Obj)} {σ : L2.St} {H : L2.Hp} {s : Shared} {scope : Scope} {ce : Env} {fp : List Addr} (c : HotS X) (I : L2.Inv X pins σ H s) (hfp : ∀ b ∈ fp, FpOk X pins H b) : HotS (X.blk s H scope ce fp) := by
  have c0 := c
  obtain ⟨x1, o, vs, hh, e, d, cc, n, nf, nx⟩ := c
  have lt := Heap.lt_size e
  refine ⟨x1, o, vs, hh, I.base.keep x1 o e n nf nx, d, cc, I.base.free x1 o e n nx, fun z => ?_, fun z => HotS.ne (σ := σ) (s := s) lt nx (hfp x1 z) rfl⟩
  rcases List.mem_cons.mp (I.stkSub x1 z) with z | z
  · exact absurd (Nat.lt_of_lt_of_le lt (by rw [z]; exact I.ok.above)) (Nat.lt_irrefl _)
  · exact nf z
structure TurnS (P : Program) (w : World) (K : PySem.W.Frag) (tg : Expr) (J : It) (fp : List Addr) (it : Addr) (tn : Nat → Heap → Prop) : Prop where
  mem : it ∈ fp
  obj : ∀ i h, tn i h → ∀ b ∈ fp, ∃ o, h.get? b = some o ∧ ∀ v, o.data ≠ .cell v
  keep : ∀ i h h', tn i h → (∀ b ∈ fp, ∀ o, h.get? b = some o → h'.get? b = some o) → tn i h'
  item : ∀ (X : Cx), X.prog = P → X.w = w → X.K = K → HotS X → ∀ (i : Nat) (pins : List (Addr × Obj)) (s : Shared) (σ : L2.St) (H : Hp) (E : Value → Shared → Prop), L2.Inv X pins σ H s → (∀ b ∈ fp, FpOk X pins H b) → tn i s.heap → J.go i H →
    wpAny (model P w) X.A (pyNext (.ref it)) (fun r s1 => ∃ u, r = some u ∧
      wpAny (model P w) X.A (letOwnedTupleGo tg (.ref it) u) (fun _ s2 => ∃ x H', L2.Inv X pins σ H' s2 ∧ RelV x u ∧ J.yld i H x H' ∧ tn (i + 1) s2.heap ∧ ∀ b ∈ fp, H' b = none) E s1) E s
  done : ∀ (X : Cx), X.prog = P → X.w = w → X.K = K → HotS X → ∀ (i : Nat) (pins : List (Addr × Obj)) (s : Shared) (σ : L2.St) (H : Hp) (E : Value → Shared → Prop), L2.Inv X pins σ H s → (∀ b ∈ fp, FpOk X pins H b) → tn i s.heap → J.stop i H →
    wpAny (model P w) X.A (pyNext (.ref it)) (fun r s1 => r = none ∧ L2.Inv X pins σ H s1) E s
  self : ∀ (A : Around) (i : Nat) (s : Shared) (Q : Value → Shared → Prop) (E : Value → Shared → Prop), tn i s.heap → Q (.ref it) s → wpAny (model P w) A (pyIter (.ref it)) Q E s
theorem turnS_list {P : Program} {w : World} {K : PySem.W.Frag} {tg : Expr} (a it : Addr) : TurnS P w K tg (Itl K a) [it] it (fun i h => h.IsListIter it a i) where
  mem := by simp
  obj := (turn_list (P := P) (w := w) (K := K) (tg := tg) a it).obj
  keep := (turn_list (P := P) (w := w) (K := K) (tg := tg) a it).keep
  item := by
    intro X hP hw hK hc i pins s σ H E I hf st hg
    subst hP hw hK
    obtain ⟨xs, x, hq, hx⟩ := hg
    obtain ⟨its, rv, p, hz⟩ := I.list hq
    obtain ⟨u, hu, ru⟩ := rv.get hx
    obtain ⟨f0, f1, f2, f3, f4, f5⟩ := hf it (by simp)
    refine wpAny_pyNext_list_item st p.isList (x := u) (by simpa using hu) fun h' st' sb => ?_
    have I1 : Inv X pins σ H { s with heap := h' } := I.turned (t' := s.toks) (fun b o hb e => (sb.2 b hb).trans e) f0 f1 f3 f4 f5
    obtain ⟨o, e, c, d⟩ := id st'
    exact ⟨u, rfl, go_of (s := { s with heap := h' }) e c d (by decide) ⟨x, H, I1, ru, ⟨rfl, fun ys hy => by rw [I.list_inj hy hq]; exact hx⟩, st', fun b hb => (hf b hb).1⟩⟩
  done := by
    intro X hP hw hK hc i pins s σ H E I hf st hg
    subst hP hw hK
    obtain ⟨xs, hq, hx⟩ := hg
    obtain ⟨its, rv, p, hz⟩ := I.list hq
    obtain ⟨x1, hot, n1, l1, nx⟩ := hc.at I
    have hne := HotS.ne (σ := σ) (s := s) l1 nx (hf it (by simp))
    obtain ⟨f0, f1, f2, f3, f4, f5⟩ := hf it (by simp)
    have hl := rv.length
    exact pyNext_list_end_hot hot hne st p.isList (by simp; omega) fun h' eb => ⟨rfl, I.turned (t' := s.toks) (fun b o hb e => eb b o hb e) f0 f1 f3 f4 f5⟩
  self := fun _ _ _ _ _ st h => wpAny_pyIter_listiter st h
def PIES (X : Cx) (pins : List (Addr × Obj)) (σ : L2.St) (tg : Expr) (R : It → Hp → Prop) (itv : Value) (s2 : Shared) : Prop :=
  ∃ (it : Addr) (fp : List Addr) (tn : Nat → Heap → Prop) (J : It) (H' : Hp), itv = .ref it ∧ L2.Inv X pins σ H' s2 ∧ TurnS X.prog X.w X.K tg J fp it tn ∧ tn 0 s2.heap ∧ (∀ b ∈ fp, FpOk X pins H' b) ∧ R J H'
structure PIS (X : Cx) (tg iter : Expr) (wi : TI) : Prop where
  run : ∀ (pins : List (Addr × Obj)) (s : Shared) (σ : L2.St) (H : Hp) (R : It → Hp → Prop), L2.Inv X pins σ H s → wi σ H R →
    wpAny (model X.prog X.w) X.A (eval iter X.env) (fun v s1 => wpAny (model X.prog X.w) X.A (pyIter v) (PIES X pins σ tg R) X.xe s1) X.xe s
section
variable {X : Cx}
theorem pg_tupS {es : List Expr} {k : Nat} {t : TGs} {n : Nat} {pos : Pos} (hc : HotS X) (h : PGs X es t)
    (hn : (assignEach es X.env).length = n := by rfl) (hst : (assignEach es X.env).findIdx? (·.1) = none := by rfl) : PG X (.Tuple es k pos) (gTup X.K n t) := by
  refine ⟨fun pins s σ H v u Q I r hw => ?_⟩
  obtain ⟨a, xs, e1, hq, hl, hw⟩ := hw
  subst e1
  cases r
  obtain ⟨its, rv, ht, hz⟩ := I.tuple hq
  obtain ⟨x1, hot, _⟩ := hc.at I
  refine assign_Tuple_tuple_hot hot ht (by simp [hn, ← hl, rv.length]) hst fun h' hx => ?_
  have I1 : Inv X pins σ H { s with heap := h' } := I.kept (t' := s.toks) fun b o e => hx b o (Nat.ne_of_lt (Heap.lt_size e)) e
  exact h.run pins _ σ H xs _ Q I1 (by simpa using rv) hw
theorem pi_listS {tg l : Expr} {tl : TE} (hl : PE X l tl) : PIS X tg l (iList X.K tl) := by
  refine ⟨fun pins s σ H R I h => ?_⟩
  refine thn (hl.run pins s σ H _ I h) fun v s1 ⟨x, H1, I1, r1, q1⟩ => ?_
  obtain ⟨a, e, ⟨xs, hq⟩, q⟩ := q1
  subst e
  cases r1
  obtain ⟨its, rv, p, hz⟩ := I1.list hq
  refine wpAny_pyIter_list p.isList ?_
  refine ⟨s1.heap.objs.size, [s1.heap.objs.size], _, _, H1, rfl, I1.kept (t' := s1.toks) fun b o e => Heap.get?_push_of_some _ e, turnS_list a _, ⟨_, Heap.get?_push_size _ rfl, rfl, rfl⟩, fun b hb => ?_, q⟩
  have e : b = s1.heap.objs.size := by simpa using hb
  subst e
  exact I1.fpOk (Nat.le_refl _) (I1.hok.fresh (Nat.le_refl _))
theorem lc_coreS {pins : List (Addr × Obj)} {s : Shared} {σ : L2.St} {H : Hp} {Q : VK} {elt tg iter : Expr} {ifs : List Expr} {scope : Scope} {own : List (Str × Nat)} {pos pos' : Pos} {wi : TI} {g : TG} {tt : TT} {te : TE} {use : Option (Value → Sem Unit)} {Qf : Value → Shared → Prop}
    (hc : HotS X) (hN : X.N.Nodup) (I : Inv X pins σ H s) (hi : PIS X tg iter wi) (ok : BlkOk X.N X.env.scope scope own)
    (hg : ∀ (s : Shared) (H : Hp) (C : Addr) (cl : List (Str × Addr)) (fp : List Addr), HotS (X.blk s H scope (compEnvC scope cl C X.env) fp) → PG (X.blk s H scope (compEnvC scope cl C X.env) fp) tg g) (ht : ∀ (s : Shared) (H : Hp) (C : Addr) (cl : List (Str × Addr)) (fp : List Addr), HotS (X.blk s H scope (compEnvC scope cl C X.env) fp) → PTs (X.blk s H scope (compEnvC scope cl C X.env) fp) ifs tt)
    (he : ∀ (s : Shared) (H : Hp) (C : Addr) (cl : List (Str × Addr)) (fp : List Addr), HotS (X.blk s H scope (compEnvC scope cl C X.env) fp) → PE (X.blk s H scope (compEnvC scope cl C X.env) fp) elt te) (hs : ∀ x, foldedSetIterable iter X.env x = pure x)
    (h : tLc wi g tt te (own.map (·.2)) σ H Q)
    (hRR : ∀ D C s' m H', Inv X pins σ H' s' → Q (.ref D) H' → s'.heap.Ns C m → FpOk X pins H' C → compPost (model X.prog X.w) X.A X.xe use Qf (.ref D) C (.ok .next) s') :
    wpAny (model X.prog X.w) X.A (comprehension (.ListComp elt [⟨tg, iter, ifs, 0⟩] scope pos) scope X.env pos' (newList []) false (eval iter X.env) use) Qf X.xe s := by
  have hfree : ∀ y ∈ scope.names, y.2 = .free → ∃ c, X.env.cells.lookup y.1 = some c := fun y hy e => by
    rcases ok.free y hy e with k | k
    · exact I.ok.has _ (.inl k)
    · exact I.ok.has _ (.inr k)
  refine wpAny_comprehension_free (use := use) rfl hs (closure_ok hfree) ok.kind (fun y hy e => by rw [ok.uniq y hy, e])
    (thn (hi.run pins s σ H _ I h) fun xv s1 hx => thn hx fun itv s2 h2 => ?_)
  obtain ⟨it, fp, tn, J, H2, e, I2, T, st2, f2, q⟩ := h2
  subst e
  refine wpAny_newObj_type (newEnv_comp ?_) (by show 0 ≤ sizeLine; decide)
  generalize hD : s2.heap.objs.size = D
  have hDn : H2 D = none := I2.hok.fresh (Nat.le_of_eq hD)
  obtain ⟨W, ⟨m0, w0⟩, turn⟩ := q D hDn
  -- the new list
  generalize hs3 : ({ s2 with heap := s2.heap.push { cls := .type "list", data := .seq ([] : List Value).toArray } } : Shared) = s3
  have I3 : Inv X pins σ (upd H2 D (.lst [])) s3 := by
    rw [← hs3]
    refine I2.laid (t' := s2.toks) (fun b o e => Heap.get?_push_of_some _ e) (Nat.le_of_eq hD) ⟨Nat.zero_le _, [], 0, .nil, ?_⟩
    rw [← hD]
    exact Heap.get?_push_size _ rfl
  have h3 : s3.heap = s2.heap.push { cls := .type "list", data := .seq ([] : List Value).toArray } := by rw [← hs3]
  have sz : ∀ b ∈ fp, b < s2.heap.objs.size := fun b hb => by
    obtain ⟨o, e, _⟩ := T.obj _ _ st2 b hb
    exact Heap.lt_size e
  have f3 : ∀ b ∈ fp, FpOk X pins (upd H2 D (.lst [])) b ∧ b < s3.heap.objs.size := fun b hb => by
    have hlt := sz b hb
    refine ⟨⟨?_, (f2 b hb).2⟩, by rw [h3, Heap.size_push]; exact Nat.lt_succ_of_lt hlt⟩
    rw [upd_ne (by rw [← hD]; exact Nat.ne_of_lt hlt)]
    exact (f2 b hb).1
  have st3 : tn 0 s3.heap := T.keep _ _ _ st2 fun b _ o e => by rw [h3]; exact Heap.get?_push_of_some _ e
  have I4 := block_start I3 ok hN f3
  have hot3 : HotS (X.blk s3 (upd H2 D (.lst [])) scope (compEnvC scope (cellsFrom (s3.heap.objs.size + 1) scope.names (cloFrom X.env.cells scope.names [])) s3.heap.objs.size X.env) fp) := hc.blk I3 fun b hb => (f3 b hb).1
  have pg := hg s3 (upd H2 D (.lst [])) s3.heap.objs.size (cellsFrom (s3.heap.objs.size + 1) scope.names (cloFrom X.env.cells scope.names [])) fp hot3
  have pt := ht s3 (upd H2 D (.lst [])) s3.heap.objs.size (cellsFrom (s3.heap.objs.size + 1) scope.names (cloFrom X.env.cells scope.names [])) fp hot3
  have pe := he s3 (upd H2 D (.lst [])) s3.heap.objs.size (cellsFrom (s3.heap.objs.size + 1) scope.names (cloFrom X.env.cells scope.names [])) fp hot3
  show codeAny _ _ (.compStart (.ListComp elt [⟨tg, iter, ifs, 0⟩] scope pos) 0 (.ref it) (.ref D) (compEnvC scope (cellsFrom (s3.heap.objs.size + 1) scope.names (cloFrom X.env.cells scope.names [])) s3.heap.objs.size X.env)) (compPost (model X.prog X.w) X.A X.xe use Qf (.ref D) s3.heap.objs.size) { s3 with heap := pushCells (s3.heap.push { cls := .type "dict", data := .dict #[] }) scope.names }
  have nfp : ∀ b ∈ fp, (upd H2 D (.lst [])) b = none := fun b hb => (f3 b hb).1.1
  generalize hce : compEnvC scope (cellsFrom (s3.heap.objs.size + 1) scope.names (cloFrom X.env.cells scope.names [])) s3.heap.objs.size X.env = ce at I4 pg pt pe hot3 ⊢
  have cL : ce.locals = s3.heap.objs.size := by subst hce; rfl
  generalize hH3 : upd H2 D (.lst []) = H3 at I3 I4 pg pt pe w0 nfp f3 hot3
  generalize hs4 : ({ s3 with heap := pushCells (s3.heap.push { cls := .type "dict", data := .dict #[] }) scope.names } : Shared) = s4 at I4 ⊢
  have st4 : tn 0 s4.heap := T.keep _ _ _ st3 fun b _ o e => by rw [← hs4]; exact pushCells_keeps _ _ _ _ (Heap.get?_push_of_some _ e)
  have stat : ∀ {σ' : L2.St} {H' : Hp} {s' : Shared}, Inv (X.blk s3 H3 scope ce fp) [] σ' H' s' → (∀ b ∈ fp, H' b = none) → ∀ b ∈ fp, FpOk (X.blk s3 H3 scope ce fp) [] H' b := fun {σ' H' s'} I' hn b hb =>
    ⟨hn b hb, (I'.ok.exf b hb).1, I'.ok.exfs b hb, .inl hb, fun x c e => (I'.ok.exf b hb).2 x c e, fun p hp => absurd (show p ∈ ([] : List (Addr × Obj)) ++ [] from hp) (by simp)⟩
  have loop : codeAny (model X.prog X.w) X.A (.compLoop (.ListComp elt [⟨tg, iter, ifs, 0⟩] scope pos) 0 (.ref it) (.ref D) ce) (compPost (model X.prog X.w) X.A X.xe use Qf (.ref D) s3.heap.objs.size) s4 := by
    refine compLoop_any (fun n s' => ∃ i H', Inv (X.blk s3 H3 scope ce fp) [] (wipe σ (own.map (·.2))) H' s' ∧ tn i s'.heap ∧ (∀ b ∈ fp, H' b = none) ∧ W i n H') ?_ m0 ⟨0, H3, I4, st4, nfp, w0⟩
    rintro n s5 ⟨i, H5, I5, st5, n5, w5⟩
    rcases turn i n H5 w5 with ⟨stop, qq⟩ | ⟨go, Nx, hNx, step⟩
    · have td := T.done (X.blk s3 H3 scope ce fp) rfl rfl rfl hot3 i [] s5 _ H5 (fun _ _ => False) I5 (stat I5 n5) st5 stop
      refine thnF td fun r s6 ⟨hr, I6⟩ => ?_
      subst hr
      -- back in the def's context
      have I7 : Inv X pins σ H5 s6 := I3.call' (ch := fp) I6.os I6.base I6.hok I6.bare fun b hb => ⟨(f3 b hb).1.2.2.2.1, (f3 b hb).1.2.1, (f3 b hb).1.2.2.2.2.1, (f3 b hb).1.2.2.2.2.2⟩
      have nC : H5 s3.heap.objs.size = none := by
        have z : H5 ce.locals = none := I6.free
        rw [cL] at z
        exact z
      obtain ⟨m, hn, _⟩ := I6.loc
      have hn : s6.heap.Ns ce.locals m := hn
      rw [cL] at hn
      exact hRR D s3.heap.objs.size s6 m H5 I7 qq hn (I3.fpOk (Nat.le_refl _) nC)
    · have ti := T.item (X.blk s3 H3 scope ce fp) rfl rfl rfl hot3 i [] s5 _ H5 (fun _ _ => False) I5 (stat I5 n5) st5 go
      refine thnF ti fun r s6 ⟨u, hr, h6⟩ => ?_
      subst hr
      refine thnF h6 fun _ s7 ⟨x, H7, I7, r7, y7, st7, n7⟩ => ?_
      have I7' := I7.pinned (stat I7 n7) (T.obj _ _ st7)
      refine thnF (pg.run _ s7 _ H7 x u _ I7' r7 (step x H7 y7)) fun _ s8 ⟨σ8, H8, I8, hw8, q8⟩ => ?_
      refine thnF (pt.run _ s8 σ8 H8 _ I8 q8) fun b s9 ⟨H9, I9, q9⟩ => ?_
      -- the turn's end
      have fin : ∀ {s' : Shared} {H' : Hp}, Inv (X.blk s3 H3 scope ce fp) ([] ++ pinsAt fp s7.heap) σ8 H' s' → Nx H' → ∃ m, m < n ∧ ∃ i H', Inv (X.blk s3 H3 scope ce fp) [] (wipe σ (own.map (·.2))) H' s' ∧ tn i s'.heap ∧ (∀ b ∈ fp, H' b = none) ∧ W i m H' := fun {s' H'} I' nx => by
        obtain ⟨m', hm, w'⟩ := hNx H' nx
        have pin' : ∀ b ∈ fp, ∀ o, s7.heap.get? b = some o → s'.heap.get? b = some o ∧ H' b = none := fun b hb o e =>
          let z := I'.pin (b, o) (List.mem_append_right _ (List.mem_append_right _ (mem_pinsAt hb e)))
          ⟨z.1, z.2.1⟩
        have hl : (wipe σ (own.map (·.2))).length = σ8.length := by rw [← hw8, wipe_length]
        refine ⟨m', hm, i + 1, H', (I'.unpinned (pins := [])).weak hl (fun j v e => ?_), T.keep _ _ _ st7 fun b hb o e => (pin' b hb o e).1, fun b hb => ?_, w'⟩
        · rw [← hw8] at e
          exact (wipe_some e).1
        · obtain ⟨o, e, _⟩ := T.obj _ _ st7 b hb
          exact (pin' b hb o e).2
      cases b with
      | false =>
        simp only [Bool.false_eq_true, if_false] at q9 ⊢
        exact fin I9 q9
      | true =>
        simp only [if_true] at q9 ⊢
        refine thnF (pe.run _ s9 σ8 H9 _ I9 q9) fun z s10 ⟨yv, H10, I10, r10, acc, hD10, hz10, nx⟩ => ?_
        exact app_ok (X := X.blk s3 H3 scope ce fp) I10 hD10 hz10 r10 fun s11 I11 => fin I11 nx
  exact codeAny_compStart_list loop (T.self X.A 0 _ _ _ st4 loop)
theorem pe_lcS {elt tg iter : Expr} {ifs : List Expr} {scope : Scope} {own : List (Str × Nat)} {pos : Pos} {wi : TI} {g : TG} {tt : TT} {te : TE} (hc : HotS X) (hN : X.N.Nodup) (hi : PIS X tg iter wi) (ok : BlkOk X.N X.env.scope scope own)
    (hg : ∀ (s : Shared) (H : Hp) (C : Addr) (cl : List (Str × Addr)) (fp : List Addr), HotS (X.blk s H scope (compEnvC scope cl C X.env) fp) → PG (X.blk s H scope (compEnvC scope cl C X.env) fp) tg g) (ht : ∀ (s : Shared) (H : Hp) (C : Addr) (cl : List (Str × Addr)) (fp : List Addr), HotS (X.blk s H scope (compEnvC scope cl C X.env) fp) → PTs (X.blk s H scope (compEnvC scope cl C X.env) fp) ifs tt)
    (he : ∀ (s : Shared) (H : Hp) (C : Addr) (cl : List (Str × Addr)) (fp : List Addr), HotS (X.blk s H scope (compEnvC scope cl C X.env) fp) → PE (X.blk s H scope (compEnvC scope cl C X.env) fp) elt te) (hs : ∀ x, foldedSetIterable iter X.env x = pure x := by intro _; rfl) :
    PE X (.ListComp elt [⟨tg, iter, ifs, 0⟩] scope pos) (tLc wi g tt te (own.map (·.2))) := by
  refine ⟨fun pins s σ H Q I h => ?_⟩
  rw [eval_ListComp]
  refine lc_coreS hc hN I hi ok hg ht he hs h fun D C s' m H' I' q hn f => ⟨m, hn, fun h'' sb => ?_⟩
  obtain ⟨f0, f1, f2, f3, f4, f5⟩ := f
  exact ⟨.ref D, H', I'.turned (t' := s'.toks) (fun b o hb e => (sb.2 b hb).trans e) f0 f1 f3 f4 f5, rfl, q⟩
end
end HotY

set_option maxRecDepth 100000
set_option maxHeartbeats 4000000
/-! # several except clauses that name what they caught -/
namespace L2N
open PySem PySem.Spec PyProof.Rows L2
/-- what the clauses wish of an exception of the body; the name's slot is i, behind a suite it is free again -/
def wNamed (K : PySem.W.Frag) (i : Nat) (D : Ends) : List (Value × (Addr → Value → Option Addr → TS)) → WX
  | [] => fun _ _ _ _ => False
  | (c, ts) :: r => fun cls d σ H => ∃ b, PySem.W.exmOne K cls c = some b ∧
      (b = true → ∀ a, H a = none → ts a cls d { nx := fun σ' H' => D.nx (σ'.set i none) H', rt := D.rt, bk := fun σ' H' => D.bk (σ'.set i none) H', ct := fun σ' H' => D.ct (σ'.set i none) H' } (σ.set i (some (.ref a))) H) ∧
      (b = false → wNamed K i D r cls d σ H)
inductive HdsAs (X : Cx) (n : Str) : List ExceptHandler → List (Value × (Addr → Value → Option Addr → TS)) → Prop
  | nil : HdsAs X n [] []
  | cons {x : Str} {c : Value} {ts : Addr → Value → Option Addr → TS} {b₀ : Stmt} {suite : List Stmt} {np pos' : Pos} {hds : List ExceptHandler} {l : List (Value × (Addr → Value → Option Addr → TS))} (hc : Names X x c)
      (hsu : ∀ (a : Addr) (oe : Obj) (cls : Value) (d : Option Addr) (pn : List (Addr × Obj)), Zn cls d oe → (∃ vs, oe.data = .fields vs) → PSs (X.suite a ((a, oe) :: pn)) (b₀ :: suite) (ts a cls d)) (r : HdsAs X n hds l) :
      HdsAs X n (.ExceptHandler (some (.Name x np)) (some n) (b₀ :: suite) pos' :: hds) ((c, ts) :: l)
section
variable {X : Cx} {n : Str} {i : Nat} {body : List Stmt} {h₀ : ExceptHandler} {hds : List ExceptHandler} {l : List (Value × (Addr → Value → Option Addr → TS))} {pos : Pos} {tb : WX → TS}
theorem ps_try_named (hs : X.stack = X.env :: X.outer) (hf : X.env.frame = some X.env.locals) (hN : X.N.Nodup) (hi : X.N[i]? = some n) (hln : X.env.kindOf n = some .local)
    (hb : ∀ (W : WX) (pn : List (Addr × Obj)) (xe : Value → Shared → Prop), Takes (X.tr pn xe) W → PassesOwn (model X.prog X.w) X.A X.env xe → PSs (X.tr pn xe) body (tb W))
    (hh : HdsAs X n (h₀ :: hds) l) : PS X (.Try body (h₀ :: hds) [] [] pos) (fun D σ H => tb (wNamed X.K i D l) D σ H) := by
  refine ⟨fun pins s σ H D I h => ?_⟩
  have okz := I.ok
  have hlocz : Loc X.env.scope n := .inl hln
  have hfrz : X.A.frames = some (X.env :: X.outer) := by rw [okz.frames, hs]
  refine wpAny_Try_except ?_
  refine wpAny_mono ((hb (wNamed X.K i D l) (X.pn ++ pins) (fun e s₁ => wpAny (model X.prog X.w) X.A (noteFrame e X.env) (fun _ s₂ => wpAny (model X.prog X.w) X.A (setFlight e none) (fun _ s₃ =>
    wpAny (model X.prog X.w) X.A (handleBy e X.env (h₀ :: hds)) (SP X pins D) X.xe s₃) X.xe s₂) X.xe s₁) (fun u s' xx => ?_) PassesOwn.looking).run [] s σ H D (I.toTry _) h) (fun f s1z hspz => ?_) (fun e s1z he => he)
  · -- the catch
    obtain ⟨a, B, sI, pins', σ', H', cls, d, rfl, Jz', nbz, up, skyz, naz, osz, agz, w⟩ := xx
    have Jz : Inv X pins σ' H' sI := Jz'.ofTry okz
    have skyz' : Sky B (X.env :: X.outer) a (Zn cls d) X.env.locals s'.heap := by rw [← hs]; exact skyz
    show wpAny (model X.prog X.w) X.A (noteFrame (.ref a) X.env) _ _ _
    refine Sky.land Zn.steady hfrz hf skyz' fun h3z fl3z up3z => ?_
    have J3z : Inv X pins σ' H' { s' with heap := h3z } := Jz.landed nbz fl3z.1 (up.trans up3z) osz agz
    obtain ⟨oe3z, vs3z, he3z, hz3z, hd3z⟩ := fl3z.there
    have notFrz : ∀ {h : Heap} {o : Obj} {vs : Array Value}, h.FunFrames B (X.env :: X.outer) → h.get? a = some o → o.data = .fields vs → a ∉ frs (X.env :: X.outer) := fun {h o vs} ff e dd hmz => by
      obtain ⟨_, o', e', hnf⟩ := ff.mem hmz
      rw [e] at e'; cases e'
      exact hnf _ dd
    have nfrz := notFrz fl3z.2.2.1 he3z hd3z
    have nLz : a ≠ X.env.locals := fun z => nfrz (List.mem_filterMap.mpr ⟨X.env, List.mem_cons_self, by rw [hf, z]⟩)
    have nFz : a ∉ X.fs := fun hmz => by
      obtain ⟨e, he, q⟩ := List.mem_filterMap.mp hmz
      exact nfrz (List.mem_filterMap.mpr ⟨e, List.mem_cons_of_mem _ he, q⟩)
    have S3z := J3z.suite he3z hd3z naz nLz nFz
    have go : ∀ {hds' : List ExceptHandler} {l' : List (Value × (Addr → Value → Option Addr → TS))}, HdsAs X n hds' l' → wNamed X.K i D l' cls d σ' H' →
        wpAny (model X.prog X.w) X.A (handleBy (.ref a) X.env hds') (SP X pins D) X.xe { s' with heap := h3z } := by
      intro hds' l' hk
      induction hk with
      | nil =>
        intro w
        exact w.elim
      | @cons x c ts b₀ suite np pos' hds2 l2 hc hsu r ih =>
        intro w
        obtain ⟨b, hb1z, hyesz, hnoz⟩ := w
        refine wpAny_handleBy_cons (codeAny_handlers_test ?_) (by intro q; cases q)
        have LTz : PySem.W.Looks (model X.prog X.w) h3z (typeOf (.ref a)) cls := fun A Q E s k q => wpAny_typeOf_ref (k _ _ he3z) (by rw [hz3z.1]; exact q)
        have LMz := PySem.W.exm_one (M := model X.prog X.w) (J3z.kIn) LTz hb1z
        have testz : ∀ {Q : Value → Shared → Prop} {E : Value → Shared → Prop}, Q c { s' with heap := h3z } → wpAny (model X.prog X.w) (X.A.mark (some (.ref a))) (eval (.Name x np) X.env) Q E { s' with heap := h3z } := fun {Q E} q => by
          obtain ⟨hg, hdbg, hmz | ⟨hmz, hv, hnn⟩⟩ := hc
          · exact ld_glob (X := X.suite a ((a, oe3z) :: (X.pn ++ pins))) S3z hg hmz q hdbg
          · exact ld_blt (X := X.suite a ((a, oe3z) :: (X.pn ++ pins))) S3z hg hmz hv q hnn hdbg
        refine testz (LMz.here ?_)
        cases b with
        | true =>
          refine codeAny_handlers_suite_as ?_
          refine HandSPX.lands_againZ fl3z fun h4z fl4z up4z => ?_
          have J4z : Inv X pins σ' H' { s' with heap := h4z } := Jz.landed nbz fl4z.1 ((up.trans up3z).trans up4z) osz agz
          obtain ⟨oe4z, vs4z, he4z, hz4z, hd4z⟩ := fl4z.there
          have S4z := J4z.suite he4z hd4z naz nLz nFz
          refine store_ok (X := X.suite a ((a, oe4z) :: (X.pn ++ pins))) (v := .ref a) S4z hN hi hlocz rfl (fun s5z S5z => ?_) (.inr hln)
          refine wpAny_mono ((hsu a oe4z cls d (X.pn ++ pins) hz4z ⟨_, hd4z⟩).run [] s5z _ H' _ S5z (hyesz rfl a naz)) (fun f s6z hspz => ?_) (fun _ _ z => False.elim z)
          have end_z : ∀ {σ6z : St} {H6z : Hp} {Q : Shared → Prop}, Inv (X.suite a ((a, oe4z) :: (X.pn ++ pins))) [] σ6z H6z s6z → (∀ s7z, Inv X pins (σ6z.set i none) H6z s7z → Q s7z) →
              wpAny (model X.prog X.w) X.A (do bindName X.env n .none; unbindBehindTheSuite X.env n pos') (fun _ s7z => Q s7z) X.xe s6z := fun {σ6z H6z Q} S6z hqz => gone_ok (S6z.unsuite okz) hN hi hln hqz
          cases f with
          | next =>
            obtain ⟨σ6z, H6z, S6z, q6z⟩ := hspz
            exact end_z S6z fun s7z J7z => ⟨_, _, J7z, q6z⟩
          | brk =>
            obtain ⟨σ6z, H6z, S6z, q6z⟩ := hspz
            exact end_z S6z fun s7z J7z => ⟨_, _, J7z, q6z⟩
          | cont =>
            obtain ⟨σ6z, H6z, S6z, q6z⟩ := hspz
            exact end_z S6z fun s7z J7z => ⟨_, _, J7z, q6z⟩
          | ret u =>
            obtain ⟨v6, σ6z, H6z, S6z, r6, q6z⟩ := hspz
            exact end_z S6z fun s7z J7z => ⟨_, _, _, J7z, r6, q6z⟩
        | false =>
          show wpAny _ X.A (handleBy (.ref a) X.env hds2) _ _ _
          exact ih (hnoz rfl)
    exact go hh w
  · cases f with
    | next =>
      obtain ⟨σ', H', Jz', q⟩ := hspz
      exact wpAny_execs_nil ⟨σ', H', Jz'.ofTry okz, q⟩
    | brk =>
      obtain ⟨σ', H', Jz', q⟩ := hspz
      exact ⟨σ', H', Jz'.ofTry okz, q⟩
    | cont =>
      obtain ⟨σ', H', Jz', q⟩ := hspz
      exact ⟨σ', H', Jz'.ofTry okz, q⟩
    | ret u =>
      obtain ⟨v, σ', H', Jz', r, q⟩ := hspz
      exact ⟨v, σ', H', Jz'.ofTry okz, r, q⟩
end
end L2N

set_option maxRecDepth 100000
set_option maxHeartbeats 4000000
/-! # a lambda handed to a def: what it raises bears no context -/
namespace LamN
open PySem PySem.Spec PyProof.Rows L2 LamX
def lamCxN (X : Cx) (A : Around) (outer : List Env) (s : Shared) (H : Hp) (E : XK) (scope : Scope) (f c' : Addr) : Cx where
  prog := X.prog
  w := X.w
  K := X.K
  mg := X.mg
  base := X.base
  A := A.deeper (lamEnv X scope s.heap.objs.size f c')
  N := X.N
  s_0 := s
  H_0 := H
  env := lamEnv X scope s.heap.objs.size f c'
  outer := outer
  stack := lamEnv X scope s.heap.objs.size f c' :: outer
  ex := []
  fn := fun _ => false
  calm := true
  pn := []
  xe := fun e s' => wpAny (model X.prog X.w) (A.deeper (lamEnv X scope s.heap.objs.size f c')) (leaving (lamEnv X scope s.heap.objs.size f c') e) (fun _ s'' => L2N.CX X.prog X.w outer H s E e s'') (fun e' s'' => L2N.CX X.prog X.w outer H s E e' s'') s'
section
variable {X : Cx} {pins : List (Addr × Obj)} {σ : L2.St} {H HZ : Hp} {s s1z : Shared}
/-- the lambda is made: itsz code object is new, or found in the table -/
theorem lam_make3 {T : List (Addr × Str)} {c P : Addr} {params : Arguments} {body : Expr} {scope : Scope} {pos : Pos} {E : Value → Shared → Prop} {Q : Value → Shared → Prop} (I : Inv X pins σ H s) (TB : TabB X.base X.mg c P) (hcode : X.env.code = .ref c)
    (hmz : (P, X.env.qual ++ "<lambda>") ∈ T) (hu : ∀ p ∈ T, p.1 = P → p.2 = X.env.qual ++ "<lambda>") (hT : Tabs T H) (hdef : defaultsOf params X.env = ([], [])) (hfreez : ∀ y ∈ scope.names, y.2 = .free → ∃ c, X.env.cells.lookup y.1 = some c)
    (h : ∀ (f c' : Addr) (pm ctv : Value) (H1z : Hp) (s' : Shared), Inv X pins σ H1z s' → ExtN H H1z → (∀ b, H1z b = none → H b = none) → Tabs T H1z →
      s'.heap.get? f = some (PySem.W.kla_obj "<lambda>" (X.env.qual ++ "<lambda>") params body scope (cloFrom X.env.cells scope.names []) pm c' ctv) → H1z f = none → f ∉ frs X.stack → H1z c' = some (CodeO c' (X.env.qual ++ "<lambda>")) → Q (.ref f) s') :
    wpAny (model X.prog X.w) X.A (eval (.Lambda params body scope pos) X.env) Q E s := by
  obtain ⟨ps, hP, ht, ha⟩ := hT _ hmz
  refine PySem.W.kla_eval hdef ?_
  have bP : s.heap.BuiltinsAt X.mg P := TB.bm.keeps I.bk
  have hP' : s.heap.get? P = some { cls := .none, data := .fields ps } := I.hok P _ hP
  have nofr : ∀ f, s.heap.objs.size ≤ f → f ∉ frs X.stack := fun f hf z => by
    rcases List.mem_cons.mp (I.stkSub _ z) with e | e
    · have h1 := I.lt
      rw [← e] at h1
      exact Nat.lt_irrefl _ (Nat.lt_of_lt_of_le h1 hf)
    · exact I.nofs hf e
  cases hc : codeAmong pos ps.toList with
  | none =>
    refine PySem.W.kla_makeFunction (mg := X.mg) (c := c) (P := P) (ps := ps) (closure_ok hfreez) I.ok.glob (I.mod.glob.keeps I.bk) hcode (TB.code.keeps I.bk) hP' ht hc TB.gP bP fun c' ctv h' tk hxz hge hltz hrec htb => ?_
    obtain ⟨c2, oc, vs, t, e2, hoc, hd, hv⟩ := hrec
    cases e2
    have hsz : s.heap.objs.size ≤ h'.objs.size := Nat.le_trans hge (Nat.le_of_lt hltz)
    have nCz : H c' = none := I.hok.fresh hge
    have I1z := inv_table (t' := tk) (more := #[rawInt pos.line, rawInt pos.col, .ref c']) (h' := h'.push (PySem.W.kla_obj "<lambda>" (X.env.qual ++ "<lambda>") params body scope (cloFrom X.env.cells scope.names []) ((X.mg "__name__").getD .none) c' ctv)) I hP
      (fun b o hb e => Heap.get?_push_of_some _ (hxz b o hb e)) (Heap.get?_push_of_some _ htb) hge ⟨oc, vs, t, Heap.get?_push_of_some _ hoc, hd, hv⟩
    have hE : ExtN H (upd (upd H P (.tbl (ps ++ #[rawInt pos.line, rawInt pos.col, .ref c']))) c' (CodeO c' (X.env.qual ++ "<lambda>"))) := fun b o e n => by
      rw [upd_ne (ne_of_none e nCz), upd_ne (fun z => n ps (Option.some.inj (e.symm.trans (by rw [z]; exact hP))))]
      exact e
    have eL : (ps ++ #[rawInt pos.line, rawInt pos.col, .ref c']).toList = ps.toList ++ [rawInt pos.line, rawInt pos.col, .ref c'] := by simp
    refine h h'.objs.size c' ((X.mg "__name__").getD .none) ctv _ _ I1z hE (fun b e => ?_) (fun p hp => ?_) (Heap.get?_push_size _ rfl) ?_ (nofr _ hsz) upd_same
    · by_cases hb : b = c'
      · rw [hb, upd_same] at e; cases e
      · rw [upd_ne hb] at e
        by_cases hb2 : b = P
        · rw [hb2, upd_same] at e; cases e
        · rw [upd_ne hb2] at e; exact e
    · by_cases hb : p.1 = P
      · rw [hu p hp hb, hb]
        refine ⟨_, by rw [upd_ne (ne_of_none hP nCz), upd_same], by rw [eL]; exact PySem.TriplesOk_snoc _ _ _ _ ht, fun p' cv hcv => ?_⟩
        rw [eL] at hcv
        rcases among_app _ ht hcv with z | z
        · obtain ⟨c0, e1, e2⟩ := ha p' cv z
          exact ⟨c0, e1, hE _ _ e2 codeO_ne⟩
        · exact ⟨c', z, upd_same⟩
      · obtain ⟨ps', a1, a2, a3⟩ := hT p hp
        refine ⟨ps', by rw [upd_ne (ne_of_none a1 nCz), upd_ne hb]; exact a1, a2, fun p' cv hcv => ?_⟩
        obtain ⟨c0, e1, e2⟩ := a3 p' cv hcv
        exact ⟨c0, e1, hE _ _ e2 codeO_ne⟩
    · have n1 : h'.objs.size ≠ c' := Nat.ne_of_gt hltz
      have n2 : h'.objs.size ≠ P := Nat.ne_of_gt (Nat.lt_of_lt_of_le (Heap.lt_size hP') hsz)
      rw [upd_ne n1, upd_ne n2]
      exact I.hok.fresh hsz
  | some cv =>
    obtain ⟨c', e, hco⟩ := ha pos cv hc
    subst e
    refine PySem.W.kla_makeFunctionHit (mg := X.mg) (c := c) (P := P) (ps := ps) (closure_ok hfreez) I.ok.glob (I.mod.glob.keeps I.bk) hcode (TB.code.keeps I.bk) hP' ht hc bP fun ctv h' tk hxz hsz => ?_
    have I1z : Inv X pins σ H { s with heap := h'.push (PySem.W.kla_obj "<lambda>" (X.env.qual ++ "<lambda>") params body scope (cloFrom X.env.cells scope.names []) ((X.mg "__name__").getD .none) c' ctv), toks := tk } := I.kept fun b o e => Heap.get?_push_of_some _ (hxz b o e)
    exact h h'.objs.size c' ((X.mg "__name__").getD .none) ctv H _ I1z (ExtN.refl H) (fun _ e => e) hT (Heap.get?_push_size _ rfl) (I.hok.fresh hsz) (nofr _ hsz) hco
/-- x(), in the def that got the lambda: Z is that def's context, entered at s -/
theorem pe_actN {CXg : CXT} {Eg : XK} {Ng : List Str} {qg : Str} {sg : Scope} {g f c' : Addr} {cdg pm ctv : Value} {params : Arguments} {body : Expr} {scope : Scope} {k i : Nat} {a : Str} {pn : List (Addr × Obj)} {xe : Value → Shared → Prop} {W : WX} {E : XK} {tb : TE} {p1 p2 : Pos}
    (I : Inv X pins σ H s) (L : LamS X.env.scope scope) (hf : s.heap.get? f = some (PySem.W.kla_obj "<lambda>" (X.env.qual ++ "<lambda>") params body scope (cloFrom X.env.cells scope.names []) pm c' ctv)) (hfn : H f = none) (hfrz : f ∉ frs X.stack)
    (hbind : bindArgs (PySem.W.kla_fn "<lambda>" (X.env.qual ++ "<lambda>") params body scope (cloFrom X.env.cells scope.names []) pm (.ref c') ctv) ⟨[], []⟩ = pure [])
    (tk : L2N.Takes ((cxOf CXg X.prog X.w X.K X.mg X.base Ng qg sg g cdg X.A X.stack s H Eg).tr pn xe) W) (hW : ∀ cls d σ' H', E cls d H' → W cls d σ' H') (hr : Room (k + 1) (X.A.deeper (envOfC qg sg s.heap.objs.size g cdg)))
    (hbody : ∀ (A : Around) (outer : List Env) (s : Shared) (H : Hp), Room k (A.deeper (lamEnv X scope s.heap.objs.size f c')) → PE (lamCxN X A outer s H E scope f c') body tb)
    (hN : Ng[i]? = some a) (hv : Vis sg a) (hd : (a == ("__debug__" : Str)) = false := by decide) (hcd : (a == ("__classdict__" : Str)) = false := by decide) :
    PE ((cxOf CXg X.prog X.w X.K X.mg X.base Ng qg sg g cdg X.A X.stack s H Eg).tr pn xe) (.Call (.Name a p1) [] [] p2)
      (fun σZ HZ Q => σZ[i]? = some (some (.ref f)) ∧ HZ c' = some (CodeO c' (X.env.qual ++ "<lambda>")) ∧ tb σ HZ Q) := by
  refine ⟨fun pinsZ sZ σZ HZ Q IZ h => ?_⟩
  obtain ⟨hs, hc, ht⟩ := h
  refine wpAny_Call_Name_kw (thn ((pe_var (pos := p1) (i := i) hN hv hd hcd).run pinsZ sZ σZ HZ (fun v H1z => v = .ref f ∧ H1z = HZ) IZ ⟨.ref f, hs, rfl, rfl⟩) fun u s1z ⟨v, H1z, I1z, r1z, q1z⟩ => ?_)
  obtain ⟨ev, eH⟩ := q1z
  subst ev
  rw [eH] at I1z
  obtain rfl : u = Value.ref f := r1z
  have of1 : s1z.heap.get? f = some (PySem.W.kla_obj "<lambda>" (X.env.qual ++ "<lambda>") params body scope (cloFrom X.env.cells scope.names []) pm c' ctv) := I1z.base.keep f _ hf hfn hfrz (fun z => nomatch (show f ∈ ([] : List Addr) from z))
  refine PySem.W.callWith_F0 ⟨_, _, _, _, of1⟩ ?_
  have un : Un (frs X.stack) [] H HZ s.heap s1z.heap := I1z.base
  obtain ⟨⟨oc, vs, t, hoc, hdc, hvc⟩, _, _⟩ := I1z.hok c' _ hc
  have rc : codeAny (model X.prog X.w) (X.A.deeper (envOfC qg sg s.heap.objs.size g cdg)) (.call (.ref f) ⟨[], []⟩) (CR (L2N.CX X.prog X.w) (envOfC qg sg s.heap.objs.size g cdg :: X.stack) X.prog X.w HZ s1z Q E) s1z := by
    refine PySem.W.kla_callFunE hr.depth of1 rfl L.co L.gen rfl ⟨c', oc, vs, t, rfl, hoc, hdc, hvc⟩ ?_
    rw [hbind]
    refine wpAny_pure (wpAny_newFunctionEnv (fun y hy => (L.own y hy).2) (fun y hy => absurd hy (by simp)) (fun h₁ hns hsb => ⟨I1z.nolimit.fresh _ hsb, ?_⟩) L.kind)
    show codeAny _ _ (.expr body (lamEnv X scope s1z.heap.objs.size f c')) _ _
    have kpz : ∀ b o, s1z.heap.get? b = some o → h₁.get? b = some o := fun b o e => hsb.extBut b o (Nat.ne_of_lt (Heap.lt_size e)) (Heap.get?_push_of_some _ e)
    have Jz : Inv (lamCxN X (X.A.deeper (envOfC qg sg s.heap.objs.size g cdg)) (envOfC qg sg s.heap.objs.size g cdg :: X.stack) s1z HZ E scope f c') [] σ HZ { s1z with heap := h₁, toks := s1z.toks + ([] : List (Str × Value)).length } :=
      (lam_start2 (E := E) (f := f) (c' := c') I L I1z.env0 hr.hd un hns kpz).toTry _
    refine PySem.W.kla_codeExpr (wpAny_mono ((hbody _ _ s1z HZ (hr.deeper _)).run [] _ _ HZ Q Jz ht) (fun v s' hqz => ?_) fun e s' hqz => hqz)
    obtain ⟨w', H', Jz', rvz, q⟩ := hqz
    exact ⟨w', H', Jz'.os, Jz'.bare, Jz'.base, Jz'.hok, rvz, q⟩
  have hxz : Passes (L2N.CX X.prog X.w) ((cxOf CXg X.prog X.w X.K X.mg X.base Ng qg sg g cdg X.A X.stack s H Eg).tr pn xe) E := L2N.passes_call tk hW
  refine wpAny_call (codeAny_mono rc fun r s' hqz => ?_)
  cases r with
  | error e => exact hxz pinsZ σZ HZ s1z e s' I1z hqz
  | ok fl =>
    cases fl with
    | ret u => exact I1z.after hqz
    | next => exact False.elim hqz
    | brk => exact False.elim hqz
    | cont => exact False.elim hqz
end
/-- the def that calls what it got: a calls it; TT: what it makes of the lambda's reading -/
def GivesToN (X : Cx) (Ng : List Str) (x : Str) (sg : Scope) (g : Addr) (cdg : Value) (bg : List Stmt) (a : Str) (q : Str) (TT : (XK → Hp → VK → Prop) → Hp → VK → Prop) : Prop :=
  ∀ (f c' : Addr) (s : Shared) (H : Hp) (Q : VK) (tl : XK → Hp → VK → Prop),
    (∀ (W : WX) (pn : List (Addr × Obj)) (xe : Value → Shared → Prop) (E : XK) (p1 p2 : Pos), L2N.Takes ((cxOf C8.CX0 X.prog X.w X.K X.mg X.base Ng x sg g cdg X.A X.stack s H C8.E0).tr pn xe) W → (∀ cls d σ' H', E cls d H' → W cls d σ' H') →
      PE ((cxOf C8.CX0 X.prog X.w X.K X.mg X.base Ng x sg g cdg X.A X.stack s H C8.E0).tr pn xe) (.Call (.Name a p1) [] [] p2) (fun σZ HZ Q => σZ[0]? = some (some (.ref f)) ∧ HZ c' = some (CodeO c' q) ∧ tl E HZ Q)) →
    H c' = some (CodeO c' q) → TT tl H Q →
    ∃ t, PSs (cxOf C8.CX0 X.prog X.w X.K X.mg X.base Ng x sg g cdg X.A X.stack s H C8.E0).nox bg t ∧ t { nx := fun _ H' => Q .non H', rt := Q } (L2.start Ng [.ref f]) H
def tLamN (T : List (Addr × Str)) (TT : (XK → Hp → VK → Prop) → Hp → VK → Prop) (t : XK → TE) : TE := fun σ H Q => Tabs T H ∧ ∀ H1z, ExtN H H1z → (∀ b, H1z b = none → H b = none) → Tabs T H1z → TT (fun E H' Q' => t E σ H' Q') H1z Q
section
variable {X : Cx}
/-- x(lambda: body) -/
theorem pe_lamcallN {T : List (Addr × Str)} {TT : (XK → Hp → VK → Prop) → Hp → VK → Prop} {x a : Str} {g c P : Addr} {k : Nat} {pgz : Arguments} {bg : List Stmt} {sg : Scope} {dV kV doc pm cdv ct oc : Value} {an od : Option Addr} {osl : Array (Option Value)} {Ng : List Str}
    {params : Arguments} {body : Expr} {scope : Scope} {t : XK → TE} {p lpos pos : Pos} (hg : Gl X x) (hmz : X.mg x = some (.ref g)) (hk : PySem.W.keepIn X.K (.ref g) = true)
    (lk : X.K.lookup g = some ⟨oc, od, .func (PySem.W.fnOf x x pgz bg sg dV kV doc pm an cdv ct), osl⟩) (hcg : PySem.W.codeIn X.K cdv x = true) (hb : L2.Binds X.K (PySem.W.fnOf x x pgz bg sg dV kV doc pm an cdv ct) [a] []) (Sg : FnScope Ng [a] sg) (hNg : Ng[0]? = some a) (hva : Vis sg a)
    (hG : GivesToN X Ng x sg g cdv bg a (X.env.qual ++ "<lambda>") TT)
    (TB : TabB X.base X.mg c P) (hcode : X.env.code = .ref c) (hmT : (P, X.env.qual ++ "<lambda>") ∈ T) (hu : ∀ p ∈ T, p.1 = P → p.2 = X.env.qual ++ "<lambda>") (hr : Room (k + 2) X.A) (L : LamS X.env.scope scope) (hdef : defaultsOf params X.env = ([], []))
    (hbind : ∀ (q : Str) (cl : List (Str × Addr)) (pm cv ctv : Value), bindArgs (PySem.W.kla_fn "<lambda>" q params body scope cl pm cv ctv) ⟨[], []⟩ = pure [])
    (hbody : ∀ (A : Around) (outer : List Env) (s : Shared) (H : Hp) (E : XK) (f c' : Addr), Room k (A.deeper (lamEnv X scope s.heap.objs.size f c')) → PE (lamCxN X A outer s H E scope f c') body (t E))
    (hdb : (x == ("__debug__" : Str)) = false := by decide) (hd : (a == ("__debug__" : Str)) = false := by decide) (hcd : (a == ("__classdict__" : Str)) = false := by decide) :
    PE X (.Call (.Name x p) [.Lambda params body scope lpos] [] pos) (tLamN T TT t) := by
  refine ⟨fun pins s σ H Q I h => ?_⟩
  obtain ⟨hT, h⟩ := h
  refine wpAny_Call_Name_kw (ld_glob I hg hmz ?_ hdb)
  refine PySem.W.callWith_K (h₀ := X.base) I.ok.mod.kin hk ?_ (by rfl) (by rfl)
  show wpAny _ _ (spliced ((false, eval (.Lambda params body scope lpos) X.env) :: backTo pos (starEach [] X.env))) _ _ s
  refine Calls.spliced_cons (lam_make3 I TB hcode hmT hu hT hdef (L.has I.ok) fun f c' pm' ctv H1z s' I1z eN nn T1 hf hfn hfrz hco => ?_)
  refine Calls.spliced_nil ⟨I1z.kIn, ?_⟩
  have rc : codeAny (model X.prog X.w) X.A (.call (.ref g) ⟨[.ref f], []⟩) (CR C8.CX0 X.stack X.prog X.w H1z s' Q C8.E0) s' := by
    refine run_ofS (N := Ng) (ps := [a]) (us := [.ref f]) (vs := [.ref f]) lk hcg Sg hr I1z.env0 (hb s' [.ref f] I1z.kIn rfl) (.cons rfl .nil) rfl fun hr' => ?_
    obtain ⟨t', ht', hq'⟩ := hG f c' s' H1z Q (fun E H' Q' => t E σ H' Q') (fun W pn xe E p1 p2 tk hW => pe_actN (i := 0) I1z L hf hfn hfrz (hbind _ _ _ _ _) tk hW hr' (fun A outer s H hr2 => hbody A outer s H E f c' hr2) hNg hva hd hcd) hco (h H1z eN nn T1)
    exact ⟨t', ht'.nox, hq'⟩
  refine wpAny_call (codeAny_mono rc fun r s2z hqz => ?_)
  cases r with
  | error e => exact (show False from hqz).elim
  | ok fl =>
    cases fl with
    | ret u => exact I1z.after hqz
    | next => exact False.elim hqz
    | brk => exact False.elim hqz
    | cont => exact False.elim hqz
end
end LamN

set_option maxRecDepth 100000
set_option maxHeartbeats 4000000
/-! # an own exception with its own __init__, raised where nothing is handled -/
namespace ExN
open PySem PySem.Spec PyProof.Rows L2
section
variable {X : Cx} {e : Expr} {es : List Expr} {ta : TA} {p p1 p2 pos : Pos}
theorem pmk_oexN {CX : CXT} {x : Str} {C fI : Addr} {k : Nat} {fd : FuncData} {ps : List Str} {sp : Sp} {ds : List Value} {dvs : List V} (T : OexC X.K C) (iC : PySem.W.findIn X.K (.ref C) "__init__" = some (some (.ref fI))) (tI : PySem.W.typeIn X.K (.ref fI) = some (.type "function"))
    (F1 : FnOk X.prog X.w X.K X.mg X.base CX k fI fd ps sp) (hr : Room (k + 1) X.A) (hb : Binds X.K fd ps ds) (hd : Vals dvs ds) (hxz : Passes CX X (fun _ _ _ => False)) (hg : Gl X x) (hmz : X.mg x = some (.ref C)) (ha : PA X (e :: es) ta)
    (hdb : (x == ("__debug__" : Str)) = false := by decide) (he : starEach (e :: es) X.env = (false, eval e X.env) :: starEach es X.env := by rfl) (hpl : (backTo pos (starEach es X.env)).any (·.1) = false := by rfl) :
    L2N.PMk X (.Call (.Name x p) (e :: es) [] pos) (tMkO C sp dvs ta) := by
  intro pins s σ H Q I h
  obtain ⟨nm, q, N, bs, bm, sn, sub, ab, col, dd, k0, k1z, k2z, k3, k5, hC, hbm⟩ := T.cls
  refine wpAny_Call_Name_kw (ld_glob I hg hmz ?_ hdb)
  refine PySem.W.callWith_K (h₀ := X.base) I.ok.mod.kin T.kC (thn (ha.run pos pins s σ H _ I h) fun us s1z ⟨vs, H1z, I1z, r1z, hzz, q1z⟩ => ⟨I1z.kIn, ?_⟩) he hpl
  show wpAny _ _ (call (.ref C) us) _ _ _
  obtain ⟨hp, g, dr, tk, osz⟩ := s1z
  have hsz : hp.objs.size ≤ hp.objs.size + 1 := Nat.le_succ _
  have hnz : H1z (hp.objs.size + 1) = none := I1z.hok.fresh hsz
  have hqz := q1z (hp.objs.size + 1) hnz
  have kk : ∀ b o, hp.get? b = some o → ((hp.push (PySem.W.kdv_tup us)).push (PySem.HandSPX.excO C hp.objs.size)).get? b = some o := fun b o e => Heap.get?_push_of_some _ (Heap.get?_push_of_some _ e)
  have hget : ((hp.push (PySem.W.kdv_tup us)).push (PySem.HandSPX.excO C hp.objs.size)).get? (hp.objs.size + 1) = some (PySem.HandSPX.excO C hp.objs.size) := by heap_get
  have I2z : Inv X pins σ (upd H1z (hp.objs.size + 1) (exo (hp.objs.size + 1) C none)) ⟨(hp.push (PySem.W.kdv_tup us)).push (PySem.HandSPX.excO C hp.objs.size), g, dr, tk, osz⟩ :=
    I1z.laid (t' := tk) (a := hp.objs.size + 1) (o := exo (hp.objs.size + 1) C none) (h' := (hp.push (PySem.W.kdv_tup us)).push (PySem.HandSPX.excO C hp.objs.size)) kk hsz (exo_ok hget)
  have r2 : Vals (V.ref (hp.objs.size + 1) :: (vs ++ dvs)) (Value.ref (hp.objs.size + 1) :: (us ++ ds)) := .cons rfl (r1z.append hd)
  have hlz : (Value.ref (hp.objs.size + 1) :: us ++ ds).length = ps.length := by
    have e := r2.length
    rw [F1.len _ _ _ _ hqz] at e
    exact e.symm
  have hus : us.length ≤ sizeLine := by
    rw [← Paired.length r1z, sizeLine_eq]
    omega
  refine wpAny_call (PySem.HandSPX.call_own F.excBase_ValueError (fun Y => PySem.HandSPX.refsVE_contains Y bm hbm) (I1z.kIn _ _ hC) (PySem.W.looks_findIn I1z.kIn iC) (fun self => PySem.W.bind_fn I1z.kIn self tI) hus
    (codeAny_mono (F1.run _ X.stack _ _ ⟨Value.ref (hp.objs.size + 1) :: us, []⟩ (Value.ref (hp.objs.size + 1) :: (us ++ ds)) _ _ (fun _ _ _ => False) (hr.make C us []) (I2z.env0.make C us []) (hb _ (Value.ref (hp.objs.size + 1) :: us) I2z.kIn hlz) r2 hqz) fun r s' hq' => ?_))
  cases r with
  | error er => exact hxz pins σ _ _ er s' I2z hq'
  | ok fl =>
    cases fl with
    | ret u =>
      obtain ⟨v, H2z, os2, bare2, un2, hok2, rvz, ev, d, fs, ea, ed, hd1, q2⟩ := hq'
      subst ev
      obtain ⟨h2, g2, d2, t2, os'⟩ := s'
      obtain ⟨t0, G, Jz, kG, ge, hoe, naz⟩ := mk_end0 (d2 := d2) (t2 := t2) I1z hsz kk un2 hok2 os2 bare2 ea ed hd1
      refine ⟨rvz, hp.objs.size + 1, _, _, ⟨G, g2, d2, t2, os'⟩, _, .ref C, some d, rfl, Jz, kG, ge, hoe, ⟨rfl, rfl, fun vs hv => ?_⟩, rfl, rfl, naz, rfl, bare2, raises_own T.exC T.tyC, q2⟩
      cases hv
      rfl
    | next => exact False.elim hq'
    | brk => exact False.elim hq'
    | cont => exact False.elim hq'

/-- B.__init__(self, ..), B an own class over ValueError without own __init__ -/
theorem pe_ownInit {Cs : Addr} {mc : Value} {x : Str} {pl : Sem Bool} (hg : Gl X x) (hm : X.mg x = some (.ref Cs)) (hdb : (x == ("__debug__" : Str)) = false) (rd : ClX.CRead X.K Cs mc) (vV : PySem.W.findCls X.K (.ref Cs) mc "__init__" = some (.val (.builtin "ValueError.__init__"))) (ha : PA X (e :: es) ta)
    (hc : eval (.Call (.Attribute (.Name x p1) "__init__" p2) (e :: es) [] pos) X.env = (do
      let ov ← eval (.Name x p1) X.env
      standAt p2.atName
      let (f, first) ← holding [ov] (getMethod ov "__init__" pl)
      callWith pos f first (backTo pos (starEach (e :: es) X.env)) (backToKw pos (keywordEach [] X.env))) := by rfl)
    (he : starEach (e :: es) X.env = (false, eval e X.env) :: starEach es X.env := by rfl) (hpl : (backTo pos (starEach es X.env)).any (·.1) = false := by rfl) :
    PE X (.Call (.Attribute (.Name x p1) "__init__" p2) (e :: es) [] pos) (tVeI X.K ta) := by
  refine ⟨fun pins t σ H Q J hq => ?_⟩
  refine PySem.W.methodCall_KW (ld_glob J hg hm ?_ hdb) hc
  refine PySem.W.method_cls J.kIn rd.ga (PySem.W.cls_value J.kIn rd.rd vV (by decide +kernel) ?_)
  show wpAny _ _ (callWith pos (Value.builtin "ValueError.__init__") [] (backTo pos (starEach (e :: es) X.env)) []) _ _ _
  refine PyProof.Rows.callWith_method1 (thn (ha.run pos pins _ σ H _ (J.tok _) hq) fun us t1 ⟨vs, Hb, Jb, rb, a, C, ws, ev, hl, T, ea, q⟩ => ?_) he hpl
  subst ev
  cases rb with
  | @cons _ u0 _ ur ra rw' =>
    obtain rfl : u0 = Value.ref a := ra
    have hlen : ur.length ≤ sizeLine := by
      rw [← Paired.length rw', sizeLine_eq]
      omega
    exact oinit_ok T Jb ea hlen fun t' J' => ⟨.non, Hb, J', rfl, q⟩
end
/-! ### __init__(self, limit): B.__init__(self, text + str(limit)); self.limit = limit -/
def spTM (K : PySem.W.Frag) : Sp := fun vs H Q _ => ∃ (a C : Addr) (i : Int), vs = [.ref a, .int i] ∧ OexC K C ∧ PySem.W.findIn K (.ref C) "limit" = some none ∧ i.natAbs < 2 ^ 64 ∧ H a = some (exo a C none) ∧
  ∀ dx, H dx = none → dx ≠ a → Q .non (upd (upd H dx (exd dx [("limit", .int i)])) a (exo a C (some dx)))
end ExN

set_option maxRecDepth 100000
set_option maxHeartbeats 4000000
/-! # a def called with the handled exception itself -/
namespace HotP
open PySem PySem.Spec PyProof.Rows L2 HotX L2H HotY
abbrev St := L2.St
/-- sp is told of the handled exception -/
structure FnP (P : Program) (w : World) (K : PySem.W.Frag) (mg : Str → Option Value) (base : Heap) (CX : CXT) (k : Nat) (f : Addr) (fd : FuncData) (ps : List Str) (sp : Addr × Obj → Sp) : Prop where
  len : ∀ p vs H Q E, sp p vs H Q E → vs.length = ps.length
  run : ∀ (A : Around) (outer : List Env) (t : Shared) (H : Hp) (args : Args) (us : List Value) (vs : List V) (Q : VK) (E : XK) (p : Addr × Obj), RoomH k A → Hot1 A p → PinOk outer H t p → Env0 P w K mg base A outer t H → BindsTo t fd args (ps.zip us) → Vals vs us → sp p vs H Q E →
    codeAny (model P w) A (.call (.ref f) args) (CR CX outer P w H t Q E) t
theorem hotS_cxH {CX : CXT} {P : Program} {w : World} {K : PySem.W.Frag} {mg : Str → Option Value} {base : Heap} {N : List Str} {qual : Str} {scope : Scope} {f : Addr} {cd : Value} {A : Around} {outer : List Env} {t : Shared} {H : Hp} {E : XK} {p : Addr × Obj}
    (hot : Hot1 A p) (hpin : PinOk outer H t p) : HotS (cxH CX P w K mg base N qual scope f cd A outer t H E p) :=
  let ⟨h1, vs, h2, h3⟩ := hot
  ⟨p.1, p.2, vs, h1, hpin.get, h2, h3, hpin.free, hpin.nofs, fun z => absurd (show p.1 ∈ ([] : List Addr) from z) (by simp)⟩
theorem fn_ofP {CX : CXT} {P : Program} {w : World} {K : PySem.W.Frag} {mg : Str → Option Value} {base : Heap} {k : Nat} {f : Addr} {name qual : Str} {params : Arguments} {body : List Stmt} {scope : Scope} {dV kV doc pm cdv ct oc : Value} {an od : Option Addr}
    {osl : Array (Option Value)} {N ps : List Str} {sp : Addr × Obj → Sp} (lk : K.lookup f = some ⟨oc, od, .func (PySem.W.fnOf name qual params body scope dV kV doc pm an cdv ct), osl⟩) (hcd : PySem.W.codeIn K cdv qual = true) (S : FnScope N ps scope)
    (len : ∀ p vs H Q E, sp p vs H Q E → vs.length = ps.length)
    (hbody : ∀ (A : Around) (outer : List Env) (s : Shared) (H : Hp) (vs : List V) (Q : VK) (E : XK) (p : Addr × Obj), Hot1 A p → PinOk outer H s p → RoomH k (A.deeper (envOfC qual scope s.heap.objs.size f cdv)) → sp p vs H Q E →
      ∃ t, PSs (cxH CX P w K mg base N qual scope f cdv A outer s H E p) body t ∧ t { nx := fun _ H' => Q .non H', rt := Q } (L2.start N vs) H) :
    FnP P w K mg base CX (k + 1) f (PySem.W.fnOf name qual params body scope dV kV doc pm an cdv ct) ps sp := by
  refine ⟨len, fun A outer s H args us vs Q E p hr hot hpin e0 hb r hspz => ?_⟩
  have hlz := len _ _ _ _ _ hspz
  have KX : K.In s.heap := e0.mod.kin.keeps fun b o e => (e0.bs b o e).1
  have lim : s.heap.NoLimit := e0.mod.nolimit.keeps fun b o e => (e0.bs b o e).1
  have hkind : ∀ y ∈ ps.zip us, scope.names.lookup y.1 = some .local ∨ (scope.names.lookup y.1 = some .cell ∧ ((cellsFrom (s.heap.objs.size + 1) scope.names []).lookup y.1).isSome = true) := fun ⟨n, v⟩ hy => by
    rcases S.par n (List.of_mem_zip hy).1 with q | q
    · exact .inl q
    · exact .inr ⟨q, PySem.W.cellsFrom_some _ _ _ (.inl q)⟩
  refine codeAny_call_function hr.depth (KX _ _ lk) rfl S.co S.gen rfl (PySem.W.codeRec_of KX hcd) (hb _ _ _ _ ?_)
  refine wpAny_newFunctionEnv_cells S.kind hkind fun env he s1z x => ?_
  subst he
  refine ⟨lim.keeps x.toInCall.keep, codeAny_func ?_⟩
  obtain ⟨t, ht, hqz⟩ := hbody A outer s H vs Q E p hot hpin (hr.deeper _) hspz
  have I : Inv (cxH CX P w K mg base N qual scope f cdv A outer s H E p) [] (L2.start N vs) H s1z := inv_startH S hpin e0 hlz r x
  refine wpAny_mono (ht.run [] s1z (L2.start N vs) H _ I hqz) (fun fl s' hs => ?_) fun e s' hs => hs
  have finz : ∀ {σ' : St} {H' : Hp} {v : V} {u : Value}, Inv (cxH CX P w K mg base N qual scope f cdv A outer s H E p) [] σ' H' s' → RelV v u → Q v H' → CE outer P w H s Q u s' :=
    fun {σ' H' v u} Jz rvz q => ⟨v, H', Jz.os, Jz.bare, Jz.base, Jz.hok, rvz, q⟩
  cases fl with
  | ret u =>
    obtain ⟨v, σ', H', Jz, rvz, q⟩ := hs
    exact finz Jz rvz q
  | next =>
    obtain ⟨σ', H', Jz, q⟩ := hs
    exact finz (v := V.non) (u := Value.none) Jz rfl q
  | brk =>
    obtain ⟨_, _, _, q⟩ := hs
    exact False.elim q
  | cont =>
    obtain ⟨_, _, _, q⟩ := hs
    exact False.elim q

section
variable {X : Cx} {CX : CXT} {k : Nat} {f C : Addr} {fd : FuncData} {ps : List Str} {p : Addr × Obj} {sp : Addr × Obj → Sp} {E : St → XK} {x m : Str} {q pos apos : Pos} {e o : Expr} {es : List Expr} {ta : TE} {t : TA}
theorem run_fnP {pins : List (Addr × Obj)} {σ : St} {H : Hp} {s : Shared} {Q : VK} {us : List Value} {vs : List V} (F : FnP X.prog X.w X.K X.mg X.base CX k f fd ps sp) (hr : RoomH k X.A) (hot : Hot1 X.A p) (hp : p ∈ X.pn) (hb : Binds X.K fd ps []) (hxz : PassesAt CX X σ (E σ))
    (I : Inv X pins σ H s) (r : Vals vs us) (h : sp p vs H Q (E σ)) : wpAny (model X.prog X.w) X.A (call (.ref f) us) (EP X pins σ Q) X.xe s := by
  have hlz : us.length = ps.length := by rw [← r.length]; exact F.len _ _ _ _ _ h
  have b := hb s us I.kIn (by rw [List.append_nil]; exact hlz)
  rw [List.append_nil] at b
  have P1 := I.pin p (List.mem_append_left _ hp)
  have hpin : PinOk X.stack H s p := ⟨P1.1, P1.2.1, fun hmz => (List.mem_cons.mp (I.stkSub p.1 hmz)).elim P1.2.2.1 P1.2.2.2.1, P1.2.2.2.2⟩
  refine wpAny_call (codeAny_mono (F.run X.A X.stack s H ⟨us, []⟩ us vs Q (E σ) p hr hot hpin I.env0 b r h) fun r s' hqz => ?_)
  cases r with
  | error e => exact hxz pins H s e s' I hqz
  | ok fl =>
    cases fl with
    | ret u => exact I.after hqz
    | next => exact False.elim hqz
    | brk => exact False.elim hqz
    | cont => exact False.elim hqz
theorem pe_callP (F : FnP X.prog X.w X.K X.mg X.base CX k f fd ps sp) (hr : RoomH k X.A) (hot : Hot1 X.A p) (hp : p ∈ X.pn) (hg : Gl X x) (hmz : X.mg x = some (.ref f)) (hk : PySem.W.keepIn X.K (.ref f) = true) (hb : Binds X.K fd ps []) (hxz : ∀ σ, PassesAt CX X σ (E σ))
    (ha : PA X (e :: es) t) (hdb : (x == ("__debug__" : Str)) = false := by decide) (he : starEach (e :: es) X.env = (false, eval e X.env) :: starEach es X.env := by rfl) (hpl : (backTo pos (starEach es X.env)).any (·.1) = false := by rfl) :
    PE X (.Call (.Name x q) (e :: es) [] pos) (tCallS (sp p) E t) := by
  refine ⟨fun pins s σ H Q I h => ?_⟩
  refine wpAny_Call_Name_kw (ld_glob I hg hmz ?_ hdb)
  refine PySem.W.callWith_K (h₀ := X.base) I.ok.mod.kin hk (thn (ha.run pos pins s σ H _ I h) fun us s1z ⟨vs, H1z, I1z, r, q⟩ => ⟨I1z.kIn, ?_⟩) he hpl
  exact run_fnP F hr hot hp hb (hxz σ) I1z r q

/-- isinstance(e, c), e the handled exception -/
theorem call_isP {D : Addr} (hp : p ∈ X.pn) (C : ExcC X.K D) (hz : Zc (.ref D) none p.2) (hf : ∃ vs, p.2.data = .fields vs) : CallR X (.builtin "isinstance") (rIsE X.K D p.1) := by
  intro pins t σ H xs us Q J r hq
  obtain ⟨c, cv, b, rfl, hcv, e, q⟩ := hq
  match r with
  | .cons rx (.cons rt .nil) =>
    cases rx
    have ec := hcv _ rt
    subst ec
    obtain ⟨hget, _⟩ := J.pin p (List.mem_append.mpr (.inl hp))
    obtain ⟨vs, hv⟩ := hf
    have JI : PySem.W.InstAt t.heap p.1 p.2 D none := by
      obtain ⟨a0, oc, od, oda, osl⟩ := p
      obtain ⟨e1, e2⟩ := hz
      dsimp only at e1 e2 hv
      subst e1 e2 hv
      exact ⟨hget, rfl, rfl, trivial⟩
    exact PySem.W.kia_one (PySem.W.handS_kitx_exc C.hg C.hk C.hs C.hd C.ha C.hn C.ht C.hm) J.kIn JI e (fun z => nomatch z) fun tk => ⟨.bl b, H, J.kept (t' := tk) fun _ _ z => z, rfl, q⟩
end
end HotP

set_option maxRecDepth 100000
set_option maxHeartbeats 4000000
/-! # Reading a def by plain data: the data, the cells of a def's slots, what the heap holds of them -/
namespace Rf
open PySem PySem.Spec PyProof.Rows L2

abbrev D := PyData
abbrev St := L2.St
/-- an error of the program's own -/
inductive Exc where
  | own (name : Str)
  | many (limit : Int)
/-- what a slot holds: data that never changes; a list of the def's own that it may change; a list that the caller lent -/
inductive C where
  | dat (d : D) | own (l : List D) | ref (l : List D) | dct (ks : List (List Int)) | raw (v : V) | rel (k : Nat) (d : D)
abbrev Rho := List (Option C)
inductive O (α : Type) where
  | ok (a : α) (ρ : Rho) | ex (e : Exc) (ρ : Rho) | no
def O.bind {α β : Type} (x : O α) (f : α → Rho → O β) : O β := match x with
  | .ok a ρ => f a ρ
  | .ex e ρ => .ex e ρ
  | .no => .no
/-- what a def gives: its value (or error) and the lent lists as they are then -/
inductive FR where
  | ret (d : D) (cs : List C) | retO (l : List D) (cs : List C) | retK (ks : List (List Int)) (cs : List C) | retV (k : Nat) (d : D) (cs : List C) | exc (e : Exc) (cs : List C) | no
abbrev FSem := List C → FR

/-! ### data in the heap -/
end Rf
namespace L2
open PySem PySem.Spec PyProof.Rows
mutual
theorem Dp.up {K : PySem.W.Frag} {G G' : Hp} (h : ∀ b o, G b = some o → G' b = some o) : ∀ {v : V} {d : PyData}, Dp K G v d → Dp K G' v d
  | _, _, .non => .non
  | _, _, .bl b => .bl b
  | _, _, .int i => .int i
  | _, _, .str x => .str x
  | _, _, .lst s a => .lst (s.imp (fun r => r.imp (h _ _) fun ⟨o, q⟩ => ⟨o, h _ _ q⟩) id) (DpAll.up h a)
  | _, _, .tup s a => .tup (s.imp (fun r => r.imp (h _ _) fun ⟨o, q⟩ => ⟨o, h _ _ q⟩) id) (DpAll.up h a)
theorem DpAll.up {K : PySem.W.Frag} {G G' : Hp} (h : ∀ b o, G b = some o → G' b = some o) : ∀ {vs : List V} {ds : List PyData}, DpAll K G vs ds → DpAll K G' vs ds
  | _, _, .nil => .nil
  | _, _, .cons a b => .cons (Dp.up h a) (DpAll.up h b)
end
section
variable {K : PySem.W.Frag} {G : Hp}
theorem DpAll.length : ∀ {vs : List V} {ds : List PyData}, DpAll K G vs ds → vs.length = ds.length
  | _, _, .nil => rfl
  | _, _, .cons _ b => by rw [List.length_cons, List.length_cons, DpAll.length b]
theorem DpAll.get : ∀ {vs : List V} {ds : List PyData} {i : Nat} {d : PyData}, DpAll K G vs ds → ds[i]? = some d → ∃ v, vs[i]? = some v ∧ Dp K G v d
  | _, _, _, _, .nil, e => by simp at e
  | _, _, 0, _, .cons a _, e => by simp at e; subst e; exact ⟨_, rfl, a⟩
  | _, _, i + 1, d, .cons _ b, e => by
    obtain ⟨v, h1, h2⟩ := DpAll.get (i := i) (d := d) b (by simpa using e)
    exact ⟨v, by simpa using h1, h2⟩
theorem DpAll.append : ∀ {vs ws : List V} {ds es : List PyData}, DpAll K G vs ds → DpAll K G ws es → DpAll K G (vs ++ ws) (ds ++ es)
  | _, _, _, _, .nil, b => b
  | _, _, _, _, .cons a r, b => .cons a (DpAll.append r b)
theorem DpAll.take : ∀ {vs : List V} {ds : List PyData} (n : Nat), DpAll K G vs ds → DpAll K G (vs.take n) (ds.take n)
  | _, _, 0, _ => .nil
  | _, _, _ + 1, .nil => .nil
  | _, _, n + 1, .cons a r => .cons a (DpAll.take n r)
theorem DpAll.drop : ∀ {vs : List V} {ds : List PyData} (n : Nat), DpAll K G vs ds → DpAll K G (vs.drop n) (ds.drop n)
  | _, _, 0, a => a
  | _, _, _ + 1, .nil => .nil
  | _, _, n + 1, .cons _ r => DpAll.drop n r
theorem DpAll.set : ∀ {vs : List V} {ds : List PyData} {v : V} {d : PyData} (n : Nat), Dp K G v d → DpAll K G vs ds → DpAll K G (vs.set n v) (ds.set n d)
  | _, _, _, _, _, _, .nil => .nil
  | _, _, _, _, 0, h, .cons _ r => .cons h r
  | _, _, _, _, n + 1, h, .cons a r => .cons a (DpAll.set n h r)
theorem DpAll.reverse {vs : List V} {ds : List PyData} (h : DpAll K G vs ds) : DpAll K G vs.reverse ds.reverse := by
  induction vs generalizing ds with
  | nil => cases h; exact .nil
  | cons v vs ih =>
    cases h with
    | cons a r => rw [List.reverse_cons, List.reverse_cons]; exact DpAll.append (ih r) (.cons a .nil)
theorem DpAll.rep {vs : List V} {ds : List PyData} (h : DpAll K G vs ds) : ∀ k : Nat, DpAll K G (List.replicate k vs).flatten (List.replicate k ds).flatten
  | 0 => by simp; exact .nil
  | k + 1 => by
    rw [List.replicate_succ, List.replicate_succ, List.flatten_cons, List.flatten_cons]
    exact DpAll.append h (DpAll.rep h k)
theorem DpAll.nil_iff {vs : List V} {ds : List PyData} (h : DpAll K G vs ds) : vs = [] ↔ ds = [] := by
  cases h <;> simp
theorem DpAll.ints : ∀ {vs : List V} {ns : List Int}, DpAll K G vs (ns.map PyData.int) → vs = ns.map V.int
  | vs, [], h => by cases h; rfl
  | vs, n :: ns, h => by
    cases h with
    | cons a r =>
      cases a
      rw [DpAll.ints r]; rfl
theorem DpAll.of_ints : ∀ (ns : List Int), DpAll K G (ns.map V.int) (ns.map PyData.int)
  | [] => .nil
  | n :: ns => .cons (.int n) (DpAll.of_ints ns)
theorem DpAll.strs : ∀ {vs : List V} {ns : List Str}, DpAll K G vs (ns.map PyData.str) → vs = ns.map V.str
  | vs, [], h => by cases h; rfl
  | vs, n :: ns, h => by
    cases h with
    | cons a r =>
      cases a
      rw [DpAll.strs r]; rfl
theorem DpAll.of_strs : ∀ (ns : List Str), DpAll K G (ns.map V.str) (ns.map PyData.str)
  | [] => .nil
  | n :: ns => .cons (.str n) (DpAll.of_strs ns)
end

end L2
namespace Rf
open PySem PySem.Spec PyProof.Rows L2
/-! ### a def's situation: what its caller left, what it may change -/
/-- a dict whose keys are tuples of ints, each with True -/
def dkOf (ks : List (List Int)) : HO := .dT (ks.map fun k => (k.map Sum.inl, V.bl true))
theorem dk_tbl {ks : List (List Int)} : ∀ ps, dkOf ks ≠ .tbl ps := fun ps z => by unfold dkOf at z; cases z
theorem dk_lst {ks : List (List Int)} : ∀ xs, dkOf ks ≠ .lst xs := fun ps z => by unfold dkOf at z; cases z
/-- what is the same through a whole run: the written part, what stays true as long as nothing but lists change, how an error lies -/
structure Bs where
  K : PySem.W.Frag
  J : Hp → Prop
  js : ∀ H H', J H → (∀ b o, H b = some o → (∀ xs, o ≠ .lst xs) → (∀ ks, o ≠ dkOf ks) → H' b = some o) → J H'
  EX : Exc → Value → Option Addr → Hp → Prop
  RV : Nat → PyData → Hp → V → Prop
  rs : ∀ {k d G G' v}, (∀ b o, G b = some o → G' b = some o) → RV k d G v → RV k d G' v
/-- W: what may change -/
structure Sit where
  W : Addr → Prop
  H0 : Hp
  G0 : Hp
  σ0 : St
  ρ0 : Rho
  wn : ∀ a, H0 a = none → W a
def Hd (ρ : Rho) (i : Nat) (l : List D) : Prop := ρ[i]? = some (some (.own l)) ∨ ρ[i]? = some (some (.ref l))
def szO : HO → Prop
  | .lst xs => xs.length ≤ sizeLine
  | .tup xs => xs.length ≤ sizeLine
  | .frz _ u => szO u
  | _ => True
structure EnvOk (B : Bs) (S : Sit) (ρ : Rho) (σ : St) (H G : Hp) : Prop where
  sub : ∀ b o, G b = some o → H b = some o
  nt : ∀ b ps, G b ≠ some (.tbl ps)
  sz : ∀ b o, G b = some o → szO o
  j : B.J H
  keep : ∀ b o, S.H0 b = some o → ¬ S.W b → (∀ ps, o ≠ .tbl ps) → H b = some o
  there : ∀ b, H b = none → S.H0 b = none
  gsub : ∀ b o, S.G0 b = some o → G b = some o
  gnew : ∀ b o, G b = some o → S.G0 b = some o ∨ S.W b
  len : ρ.length = σ.length
  dat : ∀ (i : Nat) (d : D), ρ[i]? = some (some (.dat d)) → ∃ v, σ[i]? = some (some v) ∧ Dp B.K G v d
  dct : ∀ (i : Nat) (ks : List (List Int)), ρ[i]? = some (some (.dct ks)) → ∃ a, σ[i]? = some (some (.ref a)) ∧ H a = some (dkOf ks) ∧ G a = none ∧ S.W a
  raw : ∀ (i : Nat) (v : V), ρ[i]? = some (some (.raw v)) → σ[i]? = some (some v)
  rel : ∀ (i k : Nat) (d : D), ρ[i]? = some (some (.rel k d)) → ∃ v, σ[i]? = some (some v) ∧ B.RV k d G v
  dnq : ∀ (i j : Nat) (ks ks' : List (List Int)), ρ[i]? = some (some (.dct ks)) → ρ[j]? = some (some (.dct ks')) → i = j
  held : ∀ (i : Nat) (l : List D), Hd ρ i l → ∃ a vs, σ[i]? = some (some (.ref a)) ∧ H a = some (.lst vs) ∧ G a = none ∧ DpAll B.K G vs l ∧ S.W a ∧ vs.length ≤ sizeLine
  ref : ∀ (i : Nat) (l : List D), ρ[i]? = some (some (.ref l)) → σ[i]? = S.σ0[i]? ∧ ∃ l0, S.ρ0[i]? = some (some (.ref l0))
  sep : ∀ (i j : Nat) (l m : List D), i ≠ j → Hd ρ i l → Hd ρ j m → σ[i]? ≠ σ[j]?
  isref : ∀ (i : Nat) (l : List D), S.ρ0[i]? = some (some (.ref l)) → ∃ l', ρ[i]? = some (some (.ref l'))
section
variable {B : Bs} {S : Sit} {ρ : Rho} {σ : St} {H G H' G' : Hp}
/-- the heap grows, the known part too -/
theorem EnvOk.grow (E : EnvOk B S ρ σ H G) (k : ∀ b o, H b = some o → (∀ ps, o ≠ .tbl ps) → H' b = some o) (th : ∀ b, H' b = none → H b = none)
    (gs : ∀ b o, G b = some o → G' b = some o) (gn : ∀ b o, G' b = some o → G b = some o ∨ H b = none) (su : ∀ b o, G' b = some o → H' b = some o) (nt : ∀ b ps, G' b ≠ some (.tbl ps)) (sz : ∀ b o, G' b = some o → szO o) (j : B.J H') : EnvOk B S ρ σ H' G' where
  sub := su
  nt := nt
  sz := sz
  j := j
  keep := fun b o e w n => k b o (E.keep b o e w n) n
  there := fun b e => E.there b (th b e)
  gsub := fun b o e => gs b o (E.gsub b o e)
  gnew := fun b o e => by
    rcases gn b o e with h | h
    · exact E.gnew b o h
    · exact .inr (S.wn b (E.there b h))
  len := E.len
  dat := fun i d e => let ⟨v, h1, h2⟩ := E.dat i d e; ⟨v, h1, Dp.up gs h2⟩
  dct := fun i ks e => by
    obtain ⟨a, h1, h2, h3, h4⟩ := E.dct i ks e
    refine ⟨a, h1, k a _ h2 dk_tbl, ?_, h4⟩
    cases q : G' a with
    | none => rfl
    | some o =>
      rcases gn a o q with h | h
      · rw [h3] at h; cases h
      · rw [h2] at h; cases h
  raw := E.raw
  rel := fun i k d e => let ⟨v, h1, h2⟩ := E.rel i k d e; ⟨v, h1, B.rs gs h2⟩
  dnq := E.dnq
  held := fun i l e => by
    obtain ⟨a, vs, h1, h2, h3, h4, h5⟩ := E.held i l e
    refine ⟨a, vs, h1, k a _ h2 (fun ps z => by cases z), ?_, DpAll.up gs h4, h5⟩
    cases q : G' a with
    | none => rfl
    | some o =>
      rcases gn a o q with h | h
      · rw [h3] at h; cases h
      · rw [h2] at h; cases h
  ref := E.ref
  sep := E.sep
  isref := E.isref
/-- a new object that is known from now on -/
theorem EnvOk.new (E : EnvOk B S ρ σ H G) {p : Addr} {o : HO} (hp : H p = none) (n : ∀ ps, o ≠ .tbl ps) (hz : szO o) : EnvOk B S ρ σ (upd H p o) (upd G p o) := by
  have gp : G p = none := by
    cases q : G p with
    | none => rfl
    | some u => have := E.sub p u q; rw [hp] at this; cases this
  have ne : ∀ b u, H b = some u → b ≠ p := fun b u e z => by rw [z, hp] at e; cases e
  refine E.grow (fun b u e _ => by rw [upd_ne (ne b u e)]; exact e) (fun b e => ?_) (fun b u e => ?_) (fun b u e => ?_) (fun b u e => ?_) (fun b ps e => ?_) (fun b u e => ?_) ?_
  · by_cases hb : b = p
    · rw [hb]; exact hp
    · rw [upd_ne hb] at e; exact e
  · by_cases hb : b = p
    · rw [hb, gp] at e; cases e
    · rw [upd_ne hb]; exact e
  · by_cases hb : b = p
    · rw [hb]; exact .inr hp
    · rw [upd_ne hb] at e; exact .inl e
  · by_cases hb : b = p
    · subst hb; rw [upd_same] at e ⊢; exact e
    · rw [upd_ne hb] at e ⊢; exact E.sub b u e
  · by_cases hb : b = p
    · subst hb; rw [upd_same] at e; exact n ps (Option.some.inj e)
    · rw [upd_ne hb] at e; exact E.nt b ps e
  · by_cases hb : b = p
    · subst hb; rw [upd_same] at e; cases e; exact hz
    · rw [upd_ne hb] at e; exact E.sz b u e
  · exact B.js H _ E.j fun b u e _ _ => by rw [upd_ne (ne b u e)]; exact e
/-- a new object that is not known -/
theorem EnvOk.fresh (E : EnvOk B S ρ σ H G) {p : Addr} {o : HO} (hp : H p = none) : EnvOk B S ρ σ (upd H p o) G := by
  have ne : ∀ b u, H b = some u → b ≠ p := fun b u e z => by rw [z, hp] at e; cases e
  refine E.grow (fun b u e _ => by rw [upd_ne (ne b u e)]; exact e) (fun b e => ?_) (fun b u e => e) (fun b u e => .inl e) (fun b u e => ?_) E.nt E.sz ?_
  · by_cases hb : b = p
    · rw [hb]; exact hp
    · rw [upd_ne hb] at e; exact e
  · rw [upd_ne (ne b u (E.sub b u e))]; exact E.sub b u e
  · exact B.js H _ E.j fun b u e _ _ => by rw [upd_ne (ne b u e)]; exact e
/-- no slot holds the list at p -/
def Loose (ρ : Rho) (σ : St) (p : Addr) : Prop := ∀ (i : Nat) (l : List D), Hd ρ i l → σ[i]? ≠ some (some (.ref p))
/-- a list of no slot, that a free place took, is known from now on -/
theorem EnvOk.freeze (E : EnvOk B S ρ σ H G) {p : Addr} {vs : List V} (hp : H p = some (.lst vs)) (hg : G p = none) (h0 : S.W p) (lo : Loose ρ σ p) (hz : vs.length ≤ sizeLine) : EnvOk B S ρ σ H (upd G p (.lst vs)) where
  sub := fun b u e => by
    by_cases hb : b = p
    · subst hb; rw [upd_same] at e; rw [hp]; exact e
    · rw [upd_ne hb] at e; exact E.sub b u e
  nt := fun b ps e => by
    by_cases hb : b = p
    · subst hb; rw [upd_same] at e; cases e
    · rw [upd_ne hb] at e; exact E.nt b ps e
  sz := fun b u e => by
    by_cases hb : b = p
    · subst hb; rw [upd_same] at e; cases e; exact hz
    · rw [upd_ne hb] at e; exact E.sz b u e
  j := E.j
  keep := E.keep
  there := E.there
  gsub := fun b o e => by
    have q := E.gsub b o e
    rw [upd_ne (ne_of_none q hg)]; exact q
  gnew := fun b o e => by
    by_cases hb : b = p
    · rw [hb]; exact .inr h0
    · rw [upd_ne hb] at e; exact E.gnew b o e
  len := E.len
  dat := fun i d e => by
    obtain ⟨v, h1, h2⟩ := E.dat i d e
    exact ⟨v, h1, Dp.up (fun b o q => by rw [upd_ne (ne_of_none q hg)]; exact q) h2⟩
  dct := fun i ks e => by
    obtain ⟨a, h1, h2, h3, h4⟩ := E.dct i ks e
    refine ⟨a, h1, h2, ?_, h4⟩
    rw [upd_ne (fun z => by rw [z, hp] at h2; exact dk_lst _ (Option.some.inj h2).symm)]; exact h3
  raw := E.raw
  rel := fun i k d e => let ⟨v, h1, h2⟩ := E.rel i k d e; ⟨v, h1, B.rs (fun b o q => by rw [upd_ne (ne_of_none q hg)]; exact q) h2⟩
  dnq := E.dnq
  held := fun i l e => by
    obtain ⟨a, ws, h1, h2, h3, h4, h5⟩ := E.held i l e
    refine ⟨a, ws, h1, h2, ?_, DpAll.up (fun b o q => by rw [upd_ne (ne_of_none q hg)]; exact q) h4, h5⟩
    rw [upd_ne]
    · exact h3
    · intro z; rw [z] at h1; exact lo i l e h1
  ref := E.ref
  sep := E.sep
  isref := E.isref
theorem Hd.dec (ρ : Rho) (i : Nat) : (∃ l, Hd ρ i l) ∨ ∀ l, ¬ Hd ρ i l := by
  cases q : ρ[i]? with
  | none => exact .inr fun l h => by rcases h with h | h <;> (rw [q] at h; cases h)
  | some c => cases c with
    | none => exact .inr fun l h => by rcases h with h | h <;> (rw [q] at h; cases h)
    | some c => cases c with
      | dat d => exact .inr fun l h => by rcases h with h | h <;> (rw [q] at h; cases h)
      | own l => exact .inl ⟨l, .inl q⟩
      | ref l => exact .inl ⟨l, .inr q⟩
      | dct ks => exact .inr fun l h => by rcases h with h | h <;> (rw [q] at h; cases h)
      | raw ks => exact .inr fun l h => by rcases h with h | h <;> (rw [q] at h; cases h)
      | rel k ks => exact .inr fun l h => by rcases h with h | h <;> (rw [q] at h; cases h)
theorem get_set {α : Type} {l : List α} {i j : Nat} {x y : α} (h : (l.set i x)[j]? = some y) : (i = j ∧ x = y) ∨ (i ≠ j ∧ l[j]? = some y) := by
  by_cases e : i = j
  · subst e
    by_cases hl : i < l.length
    · rw [List.getElem?_set_self hl] at h; exact .inl ⟨rfl, Option.some.inj h⟩
    · rw [List.getElem?_eq_none (by simpa using hl)] at h; cases h
  · rw [List.getElem?_set_ne e] at h; exact .inr ⟨e, h⟩
theorem Hd.of_set {i j : Nat} {c : Option C} {l : List D} (h : Hd (ρ.set i c) j l) (n : ∀ m, c ≠ some (.own m) ∧ c ≠ some (.ref m)) : i ≠ j ∧ Hd ρ j l := by
  rcases h with h | h
  · rcases get_set h with ⟨_, e⟩ | ⟨a, b⟩
    · exact absurd e (n l).1
    · exact ⟨a, .inl b⟩
  · rcases get_set h with ⟨_, e⟩ | ⟨a, b⟩
    · exact absurd e (n l).2
    · exact ⟨a, .inr b⟩
/-- a slot takes data -/
theorem EnvOk.put (E : EnvOk B S ρ σ H G) {i : Nat} {v : V} {d : D} (hd : Dp B.K G v d) (nr : ∀ l, ρ[i]? ≠ some (some (.ref l))) : EnvOk B S (ρ.set i (some (.dat d))) (σ.set i (some v)) H G where
  sub := E.sub
  nt := E.nt
  sz := E.sz
  j := E.j
  keep := E.keep
  there := E.there
  gsub := E.gsub
  gnew := E.gnew
  len := by rw [List.length_set, List.length_set]; exact E.len
  dat := fun j e h => by
    rcases get_set h with ⟨q, z⟩ | ⟨q, z⟩
    · subst q
      have hl : i < ρ.length := by
        have := (List.getElem?_eq_some_iff.mp h).1
        simpa using this
      cases z
      exact ⟨v, List.getElem?_set_self (by rw [← E.len]; exact hl), hd⟩
    · obtain ⟨w, h1, h2⟩ := E.dat j e z
      exact ⟨w, by rw [List.getElem?_set_ne q]; exact h1, h2⟩
  dct := fun j ks h => by
    rcases get_set h with ⟨_, z⟩ | ⟨q, z⟩
    · cases z
    · obtain ⟨a, h1, h2⟩ := E.dct j ks z
      exact ⟨a, by rw [List.getElem?_set_ne q]; exact h1, h2⟩
  raw := fun j v h => by
    rcases get_set h with ⟨_, z⟩ | ⟨q, z⟩
    · cases z
    · rw [List.getElem?_set_ne q]; exact E.raw j v z
  rel := fun j k d h => by
    rcases get_set h with ⟨_, z⟩ | ⟨q, z⟩
    · cases z
    · obtain ⟨w, h1, h2⟩ := E.rel j k d z
      exact ⟨w, by rw [List.getElem?_set_ne q]; exact h1, h2⟩
  dnq := fun j k ks ks' h1 h2 => by
    rcases get_set h1 with ⟨_, z⟩ | ⟨_, z1⟩
    · cases z
    · rcases get_set h2 with ⟨_, z⟩ | ⟨_, z2⟩
      · cases z
      · exact E.dnq j k ks ks' z1 z2
  held := fun j l h => by
    obtain ⟨q, z⟩ := h.of_set fun m => ⟨(fun z => nomatch z), (fun z => nomatch z)⟩
    obtain ⟨a, vs, h1, r⟩ := E.held j l z
    exact ⟨a, vs, by rw [List.getElem?_set_ne q]; exact h1, r⟩
  ref := fun j l h => by
    rcases get_set h with ⟨_, z⟩ | ⟨q, z⟩
    · cases z
    · refine ⟨?_, (E.ref j l z).2⟩
      rw [List.getElem?_set_ne q]; exact (E.ref j l z).1
  sep := fun j k l m hjk h1 h2 => by
    obtain ⟨q1, z1⟩ := h1.of_set fun m => ⟨(fun z => nomatch z), (fun z => nomatch z)⟩
    obtain ⟨q2, z2⟩ := h2.of_set fun m => ⟨(fun z => nomatch z), (fun z => nomatch z)⟩
    rw [List.getElem?_set_ne q1, List.getElem?_set_ne q2]
    exact E.sep j k l m hjk z1 z2
  isref := fun j l h => by
    obtain ⟨l', h'⟩ := E.isref j l h
    by_cases q : i = j
    · subst q; exact absurd h' (nr l')
    · exact ⟨l', by rw [List.getElem?_set_ne q]; exact h'⟩
/-- a slot takes a value of a kind -/
theorem EnvOk.putRel (E : EnvOk B S ρ σ H G) {i : Nat} {v : V} {kd : Nat} {d : D} (hd : B.RV kd d G v) (nr : ∀ l, ρ[i]? ≠ some (some (.ref l))) : EnvOk B S (ρ.set i (some (.rel kd d))) (σ.set i (some v)) H G where
  sub := E.sub
  nt := E.nt
  sz := E.sz
  j := E.j
  keep := E.keep
  there := E.there
  gsub := E.gsub
  gnew := E.gnew
  len := by rw [List.length_set, List.length_set]; exact E.len
  dat := fun j e h => by
    rcases get_set h with ⟨q, z⟩ | ⟨q, z⟩
    · cases z
    · obtain ⟨w, h1, h2⟩ := E.dat j e z
      exact ⟨w, by rw [List.getElem?_set_ne q]; exact h1, h2⟩
  dct := fun j ks h => by
    rcases get_set h with ⟨_, z⟩ | ⟨q, z⟩
    · cases z
    · obtain ⟨a, h1, h2⟩ := E.dct j ks z
      exact ⟨a, by rw [List.getElem?_set_ne q]; exact h1, h2⟩
  raw := fun j v h => by
    rcases get_set h with ⟨_, z⟩ | ⟨q, z⟩
    · cases z
    · rw [List.getElem?_set_ne q]; exact E.raw j v z
  rel := fun j kk e h => by
    rcases get_set h with ⟨q, z⟩ | ⟨q, z⟩
    · subst q
      have hl : i < ρ.length := by
        have := (List.getElem?_eq_some_iff.mp h).1
        simpa using this
      cases z
      exact ⟨v, List.getElem?_set_self (by rw [← E.len]; exact hl), hd⟩
    · obtain ⟨w, h1, h2⟩ := E.rel j kk e z
      exact ⟨w, by rw [List.getElem?_set_ne q]; exact h1, h2⟩
  dnq := fun j k ks ks' h1 h2 => by
    rcases get_set h1 with ⟨_, z⟩ | ⟨_, z1⟩
    · cases z
    · rcases get_set h2 with ⟨_, z⟩ | ⟨_, z2⟩
      · cases z
      · exact E.dnq j k ks ks' z1 z2
  held := fun j l h => by
    obtain ⟨q, z⟩ := h.of_set fun m => ⟨(fun z => nomatch z), (fun z => nomatch z)⟩
    obtain ⟨a, vs, h1, r⟩ := E.held j l z
    exact ⟨a, vs, by rw [List.getElem?_set_ne q]; exact h1, r⟩
  ref := fun j l h => by
    rcases get_set h with ⟨_, z⟩ | ⟨q, z⟩
    · cases z
    · refine ⟨?_, (E.ref j l z).2⟩
      rw [List.getElem?_set_ne q]; exact (E.ref j l z).1
  sep := fun j k l m hjk h1 h2 => by
    obtain ⟨q1, z1⟩ := h1.of_set fun m => ⟨(fun z => nomatch z), (fun z => nomatch z)⟩
    obtain ⟨q2, z2⟩ := h2.of_set fun m => ⟨(fun z => nomatch z), (fun z => nomatch z)⟩
    rw [List.getElem?_set_ne q1, List.getElem?_set_ne q2]
    exact E.sep j k l m hjk z1 z2
  isref := fun j l h => by
    obtain ⟨l', h'⟩ := E.isref j l h
    by_cases q : i = j
    · subst q; exact absurd h' (nr l')
    · exact ⟨l', by rw [List.getElem?_set_ne q]; exact h'⟩
/-- a slot takes a list of its own -/
theorem EnvOk.putOwn (E : EnvOk B S ρ σ H G) {i : Nat} {p : Addr} {vs : List V} {lw : List D} (hp : H p = some (.lst vs)) (hg : G p = none) (h0 : S.W p) (lo : Loose ρ σ p) (hz : vs.length ≤ sizeLine) (hd : DpAll B.K G vs lw) (nr : ∀ l, ρ[i]? ≠ some (some (.ref l))) :
    EnvOk B S (ρ.set i (some (.own lw))) (σ.set i (some (.ref p))) H G where
  sub := E.sub
  nt := E.nt
  sz := E.sz
  j := E.j
  keep := E.keep
  there := E.there
  gsub := E.gsub
  gnew := E.gnew
  len := by rw [List.length_set, List.length_set]; exact E.len
  dat := fun j e h => by
    rcases get_set h with ⟨q, z⟩ | ⟨q, z⟩
    · cases z
    · obtain ⟨w, h1, h2⟩ := E.dat j e z
      exact ⟨w, by rw [List.getElem?_set_ne q]; exact h1, h2⟩
  dct := fun j ks h => by
    rcases get_set h with ⟨_, z⟩ | ⟨q, z⟩
    · cases z
    · obtain ⟨a, h1, h2⟩ := E.dct j ks z
      exact ⟨a, by rw [List.getElem?_set_ne q]; exact h1, h2⟩
  raw := fun j v h => by
    rcases get_set h with ⟨_, z⟩ | ⟨q, z⟩
    · cases z
    · rw [List.getElem?_set_ne q]; exact E.raw j v z
  rel := fun j k d h => by
    rcases get_set h with ⟨_, z⟩ | ⟨q, z⟩
    · cases z
    · obtain ⟨w, h1, h2⟩ := E.rel j k d z
      exact ⟨w, by rw [List.getElem?_set_ne q]; exact h1, h2⟩
  dnq := fun j k ks ks' h1 h2 => by
    rcases get_set h1 with ⟨_, z⟩ | ⟨_, z1⟩
    · cases z
    · rcases get_set h2 with ⟨_, z⟩ | ⟨_, z2⟩
      · cases z
      · exact E.dnq j k ks ks' z1 z2
  held := fun j m h => by
    by_cases q : i = j
    · subst q
      rcases h with h | h
      · rcases get_set h with ⟨_, z⟩ | ⟨q, _⟩
        · cases z
          have hl : i < ρ.length := by
            have := (List.getElem?_eq_some_iff.mp h).1
            simpa using this
          exact ⟨p, vs, List.getElem?_set_self (by rw [← E.len]; exact hl), hp, hg, hd, h0, hz⟩
        · exact absurd rfl q
      · rcases get_set h with ⟨_, z⟩ | ⟨q, _⟩
        · cases z
        · exact absurd rfl q
    · have h' : Hd ρ j m := by
        rcases h with h | h
        · rw [List.getElem?_set_ne q] at h; exact .inl h
        · rw [List.getElem?_set_ne q] at h; exact .inr h
      obtain ⟨a, ws, h1, r⟩ := E.held j m h'
      exact ⟨a, ws, by rw [List.getElem?_set_ne q]; exact h1, r⟩
  ref := fun j l h => by
    rcases get_set h with ⟨_, z⟩ | ⟨q, z⟩
    · cases z
    · refine ⟨?_, (E.ref j l z).2⟩
      rw [List.getElem?_set_ne q]; exact (E.ref j l z).1
  sep := fun j k l m hjk h1 h2 => by
    have cs : ∀ {j : Nat} {l : List D}, Hd (ρ.set i (some (.own lw))) j l → i = j ∨ (i ≠ j ∧ Hd ρ j l) := fun {j l} h => by
      by_cases q : i = j
      · exact .inl q
      · refine .inr ⟨q, ?_⟩
        rcases h with h | h
        · rw [List.getElem?_set_ne q] at h; exact .inl h
        · rw [List.getElem?_set_ne q] at h; exact .inr h
    have at' : ∀ {j : Nat} {l : List D}, i = j → Hd (ρ.set i (some (.own lw))) j l → (σ.set i (some (.ref p)))[j]? = some (some (.ref p)) := fun {j l} q h => by
      subst q
      have hl : i < ρ.length := by
        rcases h with h | h
        · have := (List.getElem?_eq_some_iff.mp h).1; simpa using this
        · have := (List.getElem?_eq_some_iff.mp h).1; simpa using this
      exact List.getElem?_set_self (by rw [← E.len]; exact hl)
    rcases cs h1 with q1 | ⟨q1, z1⟩
    · rcases cs h2 with q2 | ⟨q2, z2⟩
      · exact absurd (q1.symm.trans q2) hjk
      · rw [at' q1 h1, List.getElem?_set_ne q2]
        exact fun z => lo k m z2 z.symm
    · rcases cs h2 with q2 | ⟨q2, z2⟩
      · rw [at' q2 h2, List.getElem?_set_ne q1]
        exact fun z => lo j l z1 z
      · rw [List.getElem?_set_ne q1, List.getElem?_set_ne q2]
        exact E.sep j k l m hjk z1 z2
  isref := fun j l h => by
    obtain ⟨l', h'⟩ := E.isref j l h
    by_cases q : i = j
    · subst q; exact absurd h' (nr l')
    · exact ⟨l', by rw [List.getElem?_set_ne q]; exact h'⟩
/-- a slot is forgotten -/
theorem EnvOk.drop (E : EnvOk B S ρ σ H G) {i : Nat} {x : Option V} (nr : ∀ l, ρ[i]? ≠ some (some (.ref l))) : EnvOk B S (ρ.set i none) (σ.set i x) H G where
  sub := E.sub
  nt := E.nt
  sz := E.sz
  j := E.j
  keep := E.keep
  there := E.there
  gsub := E.gsub
  gnew := E.gnew
  len := by rw [List.length_set, List.length_set]; exact E.len
  dat := fun j e h => by
    rcases get_set h with ⟨q, z⟩ | ⟨q, z⟩
    · cases z
    · obtain ⟨w, h1, h2⟩ := E.dat j e z
      exact ⟨w, by rw [List.getElem?_set_ne q]; exact h1, h2⟩
  dct := fun j ks h => by
    rcases get_set h with ⟨_, z⟩ | ⟨q, z⟩
    · cases z
    · obtain ⟨a, h1, h2⟩ := E.dct j ks z
      exact ⟨a, by rw [List.getElem?_set_ne q]; exact h1, h2⟩
  raw := fun j v h => by
    rcases get_set h with ⟨_, z⟩ | ⟨q, z⟩
    · cases z
    · rw [List.getElem?_set_ne q]; exact E.raw j v z
  rel := fun j k d h => by
    rcases get_set h with ⟨_, z⟩ | ⟨q, z⟩
    · cases z
    · obtain ⟨w, h1, h2⟩ := E.rel j k d z
      exact ⟨w, by rw [List.getElem?_set_ne q]; exact h1, h2⟩
  dnq := fun j k ks ks' h1 h2 => by
    rcases get_set h1 with ⟨_, z⟩ | ⟨_, z1⟩
    · cases z
    · rcases get_set h2 with ⟨_, z⟩ | ⟨_, z2⟩
      · cases z
      · exact E.dnq j k ks ks' z1 z2
  held := fun j l h => by
    obtain ⟨q, z⟩ := h.of_set fun m => ⟨(fun z => nomatch z), (fun z => nomatch z)⟩
    obtain ⟨a, vs, h1, r⟩ := E.held j l z
    exact ⟨a, vs, by rw [List.getElem?_set_ne q]; exact h1, r⟩
  ref := fun j l h => by
    rcases get_set h with ⟨_, z⟩ | ⟨q, z⟩
    · cases z
    · refine ⟨?_, (E.ref j l z).2⟩
      rw [List.getElem?_set_ne q]; exact (E.ref j l z).1
  sep := fun j k l m hjk h1 h2 => by
    obtain ⟨q1, z1⟩ := h1.of_set fun m => ⟨(fun z => nomatch z), (fun z => nomatch z)⟩
    obtain ⟨q2, z2⟩ := h2.of_set fun m => ⟨(fun z => nomatch z), (fun z => nomatch z)⟩
    rw [List.getElem?_set_ne q1, List.getElem?_set_ne q2]
    exact E.sep j k l m hjk z1 z2
  isref := fun j l h => by
    obtain ⟨l', h'⟩ := E.isref j l h
    by_cases q : i = j
    · subst q; exact absurd h' (nr l')
    · exact ⟨l', by rw [List.getElem?_set_ne q]; exact h'⟩
end
end Rf

set_option maxRecDepth 100000
set_option maxHeartbeats 4000000
namespace Rf
open PySem PySem.Spec PyProof.Rows L2

/-! ### readings by data -/
def Le (G G' : Hp) : Prop := ∀ b o, G b = some o → G' b = some o
theorem Le.refl {G : Hp} : Le G G := fun _ _ h => h
theorem Le.trans {G G' G'' : Hp} (a : Le G G') (b : Le G' G'') : Le G G'' := fun c o h => b c o (a c o h)
theorem Le.upd {G : Hp} {p : Addr} {o : HO} (h : G p = none) : Le G (upd G p o) := fun b u e => by rw [upd_ne (ne_of_none e h)]; exact e
def Post (B : Bs) (S : Sit) (Wx : WX) (σ : St) (G : Hp) {α : Type} (o : O α) (R : α → Rho → Hp → Hp → Prop) : Prop := match o with
  | .ok a ρ' => ∀ H' G', EnvOk B S ρ' σ H' G' → Le G G' → R a ρ' H' G'
  | .ex e ρ' => ∀ cls a H' G', EnvOk B S ρ' σ H' G' → Le G G' → B.EX e cls a H' → Wx cls a σ H'
  | .no => False
section
variable {B : Bs} {S : Sit} {Wx : WX} {σ : St} {G G' : Hp} {α β : Type} {x : O α} {f : α → Rho → O β}
theorem Post.le {R : α → Rho → Hp → Hp → Prop} (h : Post B S Wx σ G x R) (le : Le G G') : Post B S Wx σ G' x R := by
  cases x with
  | ok a ρ => exact fun H1 G1 E1 l1 => h H1 G1 E1 (le.trans l1)
  | ex e ρ => exact fun c a H1 G1 E1 l1 => h c a H1 G1 E1 (le.trans l1)
  | no => exact h
theorem Post.bind {R : β → Rho → Hp → Hp → Prop} (h : Post B S Wx σ G (x.bind f) R) : Post B S Wx σ G x (fun a ρ1 H1 G1 => Post B S Wx σ G1 (f a ρ1) R) := by
  cases x with
  | ok a ρ => exact fun H1 G1 E1 l1 => Post.le h l1
  | ex e ρ => exact h
  | no => exact h
theorem Post.imp {R R' : α → Rho → Hp → Hp → Prop} (h : Post B S Wx σ G x R) (i : ∀ a ρ' H' G', EnvOk B S ρ' σ H' G' → Le G G' → R a ρ' H' G' → R' a ρ' H' G') : Post B S Wx σ G x R' := by
  cases x with
  | ok a ρ => exact fun H1 G1 E1 l1 => i a ρ H1 G1 E1 l1 (h H1 G1 E1 l1)
  | ex e ρ => exact h
  | no => exact h
theorem Post.at {R : α → Rho → Hp → Hp → Prop} {a : α} {ρ : Rho} {H : Hp} (E : EnvOk B S ρ σ H G) (h : Post B S Wx σ G (.ok a ρ) R) : R a ρ H G := h H G E Le.refl
end
section
variable (B : Bs) (Wx : WX)
/-- an expression that gives data -/
def tEv (f : Rho → O D) : TE := fun σ H Q => ∃ S ρ G, EnvOk B S ρ σ H G ∧ Post B S Wx σ G (f ρ) (fun d _ H' G' => ∀ v, Dp B.K G' v d → Q v H')
/-- a test -/
def tEt (f : Rho → O D) : TT := fun σ H Q => ∃ S ρ G, EnvOk B S ρ σ H G ∧ Post B S Wx σ G (f ρ) (fun d _ H' G' => ∃ b, d = .bool b ∧ Q b H')
/-- an expression that gives a new list of no slot -/
def tEo (f : Rho → O (List D)) : TE := fun σ H Q => ∃ S ρ G, EnvOk B S ρ σ H G ∧ Post B S Wx σ G (f ρ) (fun l ρ' H' G' => ∀ p vs, H' p = some (.lst vs) → G' p = none → S.W p → Loose ρ' σ p → vs.length ≤ sizeLine → DpAll B.K G' vs l → Q (.ref p) H')
/-- arguments that give data -/
def tEs (f : Rho → O (List D)) : TA := fun σ H Q => ∃ S ρ G, EnvOk B S ρ σ H G ∧ Post B S Wx σ G (f ρ) (fun ds _ H' G' => ∀ vs, DpAll B.K G' vs ds → Q vs H')
/-- arguments: data, or a slot's list lent -/
inductive Ar where | d (x : D) | r (i : Nat)
def ArOk (K : PySem.W.Frag) (σ : St) (G : Hp) : Ar → V → Prop
  | .d x, v => Dp K G v x
  | .r i, v => σ[i]? = some (some v)
theorem ArOk.up {K : PySem.W.Frag} {σ : St} {G G' : Hp} (h : Le G G') {a : Ar} {v : V} (x : ArOk K σ G a v) : ArOk K σ G' a v := by
  cases a with
  | d _ => exact Dp.up h x
  | r _ => exact x
def tEa (f : Rho → O (List Ar)) : TA := fun σ H Q => ∃ S ρ G, EnvOk B S ρ σ H G ∧ Post B S Wx σ G (f ρ) (fun as _ H' G' => ∀ vs, Paired (ArOk B.K σ G') as vs → Q vs H')
end
theorem _root_.L2.PE.imp' {X : Cx} {e : Expr} {t t' : TE} (h : PE X e t) (i : ∀ σ H Q, t' σ H Q → t σ H Q) : PE X e t' := ⟨fun pins s σ H Q I q => h.run pins s σ H Q I (i σ H Q q)⟩
theorem _root_.L2.PT.imp' {X : Cx} {e : Expr} {t t' : TT} (h : PT X e t) (i : ∀ σ H Q, t' σ H Q → t σ H Q) : PT X e t' := ⟨fun pins s σ H Q I q => h.run pins s σ H Q I (i σ H Q q)⟩
theorem _root_.L2.PW.imp' {X : Cx} {e : Expr} {t t' : TT} (h : PW X e t) (i : ∀ σ H Q, t' σ H Q → t σ H Q) : PW X e t' := ⟨fun wh pins s σ H Q I q => h.run wh pins s σ H Q I (i σ H Q q)⟩
theorem _root_.L2.PA.imp' {X : Cx} {e : List Expr} {t t' : TA} (h : PA X e t) (i : ∀ σ H Q, t' σ H Q → t σ H Q) : PA X e t' := ⟨fun pos pins s σ H Q I q => h.run pos pins s σ H Q I (i σ H Q q)⟩
theorem _root_.L2.PS.imp' {X : Cx} {e : Stmt} {t t' : TS} (h : PS X e t) (i : ∀ D σ H, t' D σ H → t D σ H) : PS X e t' := ⟨fun pins s σ H D I q => h.run pins s σ H D I (i D σ H q)⟩
theorem _root_.L2.PSs.imp' {X : Cx} {e : List Stmt} {t t' : TS} (h : PSs X e t) (i : ∀ D σ H, t' D σ H → t D σ H) : PSs X e t' := ⟨fun pins s σ H D I q => h.run pins s σ H D I (i D σ H q)⟩
/-- a rule whose reading is chosen behind the facts -/
theorem pe_late {X : Cx} {e : Expr} {t : TE} (h : ∀ σ H Q, t σ H Q → ∃ t', PE X e t' ∧ t' σ H Q) : PE X e t := ⟨fun pins s σ H Q I q => let ⟨_, h1, h2⟩ := h σ H Q q; h1.run pins s σ H Q I h2⟩
theorem pt_late {X : Cx} {e : Expr} {t : TT} (h : ∀ σ H Q, t σ H Q → ∃ t', PT X e t' ∧ t' σ H Q) : PT X e t := ⟨fun pins s σ H Q I q => let ⟨_, h1, h2⟩ := h σ H Q q; h1.run pins s σ H Q I h2⟩

section
variable {X : Cx} {B : Bs} {Wx : WX}
theorem EnvOk.gnone {S : Sit} {ρ : Rho} {σ : St} {H G : Hp} {p : Addr} (E : EnvOk B S ρ σ H G) (hp : H p = none) : G p = none := by
  cases q : G p with
  | none => rfl
  | some u => have := E.sub p u q; rw [hp] at this; cases this
theorem EnvOk.loose {S : Sit} {ρ : Rho} {σ : St} {H G : Hp} {p : Addr} (E : EnvOk B S ρ σ H G) (hp : H p = none) : Loose ρ σ p := fun i l h z => by
  obtain ⟨a, vs, h1, h2, _⟩ := E.held i l h
  rw [h1] at z; cases z
  rw [hp] at h2; cases h2
/-- a new list at a free place -/
theorem EnvOk.newl {S : Sit} {ρ : Rho} {σ : St} {H G : Hp} {p : Addr} {vs : List V} (E : EnvOk B S ρ σ H G) (hp : H p = none) :
    EnvOk B S ρ σ (upd H p (.lst vs)) G ∧ (upd H p (.lst vs)) p = some (.lst vs) ∧ G p = none ∧ S.W p ∧ Loose ρ σ p :=
  ⟨E.fresh hp, upd_same, E.gnone hp, S.wn p (E.there p hp), E.loose hp⟩
/-- a new list is data where nobody changes it -/
theorem pe_frozen {e : Expr} {f : Rho → O (List D)} (h : PE X e (tEo B Wx f)) : PE X e (tEv B Wx fun ρ => (f ρ).bind fun l ρ' => .ok (.list l) ρ') := h.imp' fun σ H Q ⟨S, ρ, G, E, P⟩ => by
  refine ⟨S, ρ, G, E, P.bind.imp fun l ρ' H' G' E' le q p vs h1 h2 h3 h4 hz h5 => ?_⟩
  refine q H' (upd G' p (.lst vs)) (E'.freeze h1 h2 h3 h4 hz) (Le.upd h2) _ ?_
  exact .lst (SqL.of upd_same) (DpAll.up (Le.upd h2) h5)

theorem szl {S : Sit} {ρ : Rho} {σ : St} {H G : Hp} {K : PySem.W.Frag} {a : Addr} {xs : List V} (E : EnvOk B S ρ σ H G) (h : SqL K G a xs) : xs.length ≤ sizeLine := by
  rcases h with (h | ⟨o, h⟩) | ⟨o, its, n, h1, h2, h3, h4, h5, h6⟩
  · exact E.sz a _ h
  · exact E.sz a _ h
  · rw [h6.length]; simpa using h5
theorem szt {S : Sit} {ρ : Rho} {σ : St} {H G : Hp} {K : PySem.W.Frag} {a : Addr} {xs : List V} (E : EnvOk B S ρ σ H G) (h : SqT K G a xs) : xs.length ≤ sizeLine := by
  rcases h with (h | ⟨o, h⟩) | ⟨o, its, n, h1, h2, h3, h4, h5⟩
  · exact E.sz a _ h
  · exact E.sz a _ h
  · rw [h5.length]; simpa using h4
/-! ### names and constants -/
def sVar (i : Nat) : Rho → O D := fun ρ => match ρ[i]? with
  | some (some (.dat d)) => .ok d ρ
  | some (some (.own l)) => .ok (.list l) (ρ.set i (some (.dat (.list l))))
  | _ => .no
/-- an own list becomes data -/
theorem EnvOk.thaw {S : Sit} {ρ : Rho} {σ : St} {H G : Hp} {i : Nat} {l : List D} (E : EnvOk B S ρ σ H G) (h : ρ[i]? = some (some (.own l))) :
    ∃ (a : Addr) (G' : Hp), σ[i]? = some (some (.ref a)) ∧ EnvOk B S (ρ.set i (some (.dat (.list l)))) σ H G' ∧ Le G G' ∧ Dp B.K G' (.ref a) (.list l) := by
  obtain ⟨a, vs, h1, h2, h3, h4, h0, hz⟩ := E.held i l (.inl h)
  have nr : ∀ m, ρ[i]? ≠ some (some (.ref m)) := fun m z => by rw [h] at z; cases z
  have E1 : EnvOk B S (ρ.set i none) (σ.set i (some (.ref a))) H G := E.drop nr
  have es : σ.set i (some (.ref a)) = σ := by
    apply List.ext_getElem?
    intro j
    by_cases q : i = j
    · subst q
      have hl : i < σ.length := (List.getElem?_eq_some_iff.mp h1).1
      rw [List.getElem?_set_self hl, h1]
    · rw [List.getElem?_set_ne q]
  rw [es] at E1
  have lo : Loose (ρ.set i none) σ a := fun j m hj z => by
    obtain ⟨q, hj'⟩ := hj.of_set fun m => ⟨(fun z => nomatch z), (fun z => nomatch z)⟩
    exact E.sep i j l m q (.inl h) hj' (h1.trans z.symm)
  have E2 := E1.freeze h2 h3 h0 lo hz
  have dp : Dp B.K (upd G a (.lst vs)) (.ref a) (.list l) := .lst (SqL.of upd_same) (DpAll.up (Le.upd h3) h4)
  have E3 := E2.put (i := i) dp (fun m z => by
    have hl : i < ρ.length := (List.getElem?_eq_some_iff.mp h).1
    rw [List.getElem?_set_self hl] at z; cases z)
  rw [List.set_set, es] at E3
  exact ⟨a, _, h1, E3, Le.upd h3, dp⟩
theorem r_var {i : Nat} {x : Str} {pos : Pos} (hN : X.N[i]? = some x) (hv : Vis X.env.scope x) (hd : (x == ("__debug__" : Str)) = false) (hcd : (x == ("__classdict__" : Str)) = false) : PE X (.Name x pos) (tEv B Wx (sVar i)) :=
  (pe_var hN hv hd hcd).imp' fun σ H Q ⟨S, ρ, G, E, P⟩ => by
    unfold sVar at P
    split at P
    · rename_i d h
      obtain ⟨v, h1, h2⟩ := E.dat i d h
      exact ⟨v, h1, P H G E Le.refl v h2⟩
    · rename_i l h
      obtain ⟨a, G', h1, E', le, dp⟩ := E.thaw h
      exact ⟨_, h1, P H G' E' le _ dp⟩
    · exact False.elim P
def sCon (d : D) : Rho → O D := fun ρ => .ok d ρ
theorem r_int {i j pos} : PE X (.Constant (.int i) j pos) (tEv B Wx (sCon (.int i))) := pe_int.imp' fun σ H Q ⟨S, ρ, G, E, P⟩ => P H G E Le.refl _ (.int i)
theorem r_bl {b j pos} : PE X (.Constant (.bool b) j pos) (tEv B Wx (sCon (.bool b))) := pe_bl.imp' fun σ H Q ⟨S, ρ, G, E, P⟩ => P H G E Le.refl _ (.bl b)
theorem r_non {j pos} : PE X (.Constant .none j pos) (tEv B Wx (sCon .none)) := pe_non.imp' fun σ H Q ⟨S, ρ, G, E, P⟩ => P H G E Le.refl _ .non
theorem r_str {x j pos} : PE X (.Constant (.str x) j pos) (tEv B Wx (sCon (.str x))) := pe_str.imp' fun σ H Q ⟨S, ρ, G, E, P⟩ => P H G E Le.refl _ (.str x)
/-- a constant of the module -/
theorem r_glob {x : Str} {v : V} {u : Value} {d : D} {pos : Pos} (hg : Gl X x) (hm : X.mg x = some u) (r : RelV v u) (hd : Dp B.K (fun _ => none) v d) (hdb : (x == ("__debug__" : Str)) = false) : PE X (.Name x pos) (tEv B Wx (sCon d)) :=
  (pe_glob hg hm r hdb).imp' fun σ H Q ⟨S, ρ, G, E, P⟩ => P H G E Le.refl _ (Dp.up (fun _ _ h => by cases h) hd)

/-! ### rows of expressions -/
def sNil {α : Type} : Rho → O (List α) := fun ρ => .ok [] ρ
def sCons {α : Type} (f : Rho → O α) (g : Rho → O (List α)) : Rho → O (List α) := fun ρ => (f ρ).bind fun x ρ1 => (g ρ1).bind fun xs ρ2 => .ok (x :: xs) ρ2
theorem r_nil : PA X [] (tEs B Wx sNil) := pa_nil.imp' fun σ H Q ⟨S, ρ, G, E, P⟩ => P H G E Le.refl _ .nil
theorem r_cons {e : Expr} {es : List Expr} {f : Rho → O D} {g : Rho → O (List D)} (he : PE X e (tEv B Wx f)) (hr : PA X es (tEs B Wx g)) (hs : starEach (e :: es) X.env = (false, eval e X.env) :: starEach es X.env) : PA X (e :: es) (tEs B Wx (sCons f g)) :=
  (pa_cons he hr hs).imp' fun σ H Q ⟨S, ρ, G, E, P⟩ => by
    refine ⟨S, ρ, G, E, P.bind.imp fun d ρ1 H1 G1 E1 le1 q v hv => ?_⟩
    exact ⟨S, ρ1, G1, E1, q.bind.imp fun ds ρ2 H2 G2 E2 le2 q2 vs hvs => Post.at E2 q2 _ (.cons (Dp.up le2 hv) hvs)⟩
theorem r_anil : PA X [] (tEa B Wx sNil) := pa_nil.imp' fun σ H Q ⟨S, ρ, G, E, P⟩ => P H G E Le.refl _ .nil
theorem r_acons {e : Expr} {es : List Expr} {f : Rho → O D} {g : Rho → O (List Ar)} (he : PE X e (tEv B Wx f)) (hr : PA X es (tEa B Wx g)) (hs : starEach (e :: es) X.env = (false, eval e X.env) :: starEach es X.env) :
    PA X (e :: es) (tEa B Wx (sCons (fun ρ => (f ρ).bind fun d ρ1 => .ok (.d d) ρ1) g)) :=
  (pa_cons he hr hs).imp' fun σ H Q ⟨S, ρ, G, E, P⟩ => by
    refine ⟨S, ρ, G, E, P.bind.bind.imp fun d ρ1 H1 G1 E1 le1 q v hv => ?_⟩
    have q' := Post.at E1 q
    exact ⟨S, ρ1, G1, E1, q'.bind.imp fun ds ρ2 H2 G2 E2 le2 q2 vs hvs => Post.at E2 q2 _ (.cons (show ArOk B.K σ G2 (.d d) v from Dp.up le2 hv) hvs)⟩
def sLent (i : Nat) : Rho → O Ar := fun ρ => match ρ[i]? with
  | some (some (.own _)) => .ok (.r i) ρ
  | some (some (.ref _)) => .ok (.r i) ρ
  | _ => .no
theorem r_aref {i : Nat} {x : Str} {pos : Pos} {es : List Expr} {g : Rho → O (List Ar)} (hN : X.N[i]? = some x) (hv : Vis X.env.scope x) (hd : (x == ("__debug__" : Str)) = false) (hcd : (x == ("__classdict__" : Str)) = false) (hr : PA X es (tEa B Wx g))
    (hs : starEach ((.Name x pos) :: es) X.env = (false, eval (.Name x pos) X.env) :: starEach es X.env) : PA X (.Name x pos :: es) (tEa B Wx (sCons (sLent i) g)) :=
  (pa_cons (pe_var hN hv hd hcd) hr hs).imp' fun σ H Q ⟨S, ρ, G, E, P⟩ => by
    have key : ∀ l, Hd ρ i l → sLent i ρ = .ok (.r i) ρ → ∃ v, σ[i]? = some (some v) ∧ tEa B Wx g σ H fun vs H2 => Q (v :: vs) H2 := fun l h e => by
      obtain ⟨a, vs, h1, h2⟩ := E.held i l h
      unfold sCons at P
      rw [e] at P
      have q := Post.at E P.bind
      exact ⟨_, h1, S, ρ, G, E, q.bind.imp fun as ρ2 H2 G2 E2 le2 q2 ws hw => Post.at E2 q2 _ (.cons (show ArOk B.K σ G2 (.r i) _ from h1) hw)⟩
    cases q : ρ[i]? with
    | none => unfold sCons sLent at P; rw [q] at P; exact False.elim P
    | some c =>
      cases c with
      | none => unfold sCons sLent at P; rw [q] at P; exact False.elim P
      | some c =>
        cases c with
        | dat d => unfold sCons sLent at P; rw [q] at P; exact False.elim P
        | own l => exact key l (.inl q) (by unfold sLent; rw [q])
        | ref l => exact key l (.inr q) (by unfold sLent; rw [q])
        | dct d => unfold sCons sLent at P; rw [q] at P; exact False.elim P
        | raw d => unfold sCons sLent at P; rw [q] at P; exact False.elim P
        | rel k d => unfold sCons sLent at P; rw [q] at P; exact False.elim P
/-- a row that is short enough by its letters -/
theorem le_line {n : Nat} (h : n ≤ 1000) : n ≤ sizeLine := by rw [sizeLine_eq]; omega
def sTup (f : Rho → O (List D)) : Rho → O D := fun ρ => (f ρ).bind fun l ρ1 => if l.length ≤ 1000 then .ok (.tuple l) ρ1 else .no
theorem r_tup {es : List Expr} {k : Nat} {pos : Pos} {f : Rho → O (List D)} (h : PA X es (tEs B Wx f)) : PE X (.Tuple es k pos) (tEv B Wx (sTup f)) :=
  (pe_tup h).imp' fun σ H Q ⟨S, ρ, G, E, P⟩ => by
    refine ⟨S, ρ, G, E, P.bind.imp fun l ρ1 H1 G1 E1 le1 q vs hvs => ?_⟩
    split at q
    · rename_i hl
      refine ⟨by rw [hvs.length]; exact le_line hl, fun p hp => ?_⟩
      refine q (upd H1 p (.tup vs)) (upd G1 p (.tup vs)) (E1.new hp (fun _ => HO.noConfusion) (show vs.length ≤ sizeLine by rw [hvs.length]; exact le_line hl)) (Le.upd (E1.gnone hp)) _ ?_
      exact .tup (SqT.of upd_same) (DpAll.up (Le.upd (E1.gnone hp)) hvs)
    · exact False.elim q
def sLst (f : Rho → O (List D)) : Rho → O (List D) := fun ρ => (f ρ).bind fun l ρ1 => if l.length ≤ 1000 then .ok l ρ1 else .no
theorem r_lst {es : List Expr} {pos : Pos} {f : Rho → O (List D)} (h : PA X es (tEs B Wx f)) : PE X (.List es pos) (tEo B Wx (sLst f)) :=
  (pe_lst h).imp' fun σ H Q ⟨S, ρ, G, E, P⟩ => by
    refine ⟨S, ρ, G, E, P.bind.imp fun l ρ1 H1 G1 E1 le1 q vs hvs => ?_⟩
    split at q
    · rename_i hl
      refine ⟨by rw [hvs.length]; exact le_line hl, fun p hp => ?_⟩
      obtain ⟨e1, e2, e3, e4, e5⟩ := E1.newl (vs := vs) hp
      exact q _ G1 e1 Le.refl p vs e2 e3 e4 e5 (by rw [hvs.length]; exact le_line hl) hvs
    · exact False.elim q
end
end Rf

set_option maxRecDepth 100000
set_option maxHeartbeats 4000000
namespace Rf
open PySem PySem.Spec PyProof.Rows L2

/-! ### operators on data -/
def MulOk (i j : Int) : Prop := i.natAbs.log2 + j.natAbs.log2 < 1000000
instance (i j : Int) : Decidable (MulOk i j) := inferInstanceAs (Decidable (_ < _))
def dBin : Operator → D → D → Option D
  | .Add, .int i, .int j => some (.int (i + j))
  | .Add, .list a, .list b => if a.length + b.length ≤ 16777216 then some (.list (a ++ b)) else none
  | .Add, .tuple a, .tuple b => if a.length + b.length ≤ 16777216 then some (.tuple (a ++ b)) else none
  | .Add, .str a, .str b => if a.length + b.length ≤ 16777216 then some (.str (a ++ b)) else none
  | .Sub, .int i, .int j => some (.int (i - j))
  | .Mult, .int i, .int j => if MulOk i j then some (.int (i * j)) else none
  | .Mult, .tuple a, .int k => if a ≠ [] ∧ 2 ≤ k ∧ k ≤ 1000 ∧ a.length ≤ 1000 then some (.tuple (List.replicate k.toNat a).flatten) else none
  | .FloorDiv, .int i, .int j => if j ≠ 0 ∧ j.natAbs.log2 < 9000 then some (.int (i.fdiv j)) else none
  | .Mod, .int i, .int j => if j ≠ 0 then some (.int (i.fmod j)) else none
  | .Pow, .int i, .int j => if 0 ≤ j ∧ j ≤ 1000000 ∧ i.natAbs < 2 ^ 64 then some (.int (i ^ j.toNat)) else none
  | _, _, _ => none
def intsOf : List D → Option (List Int)
  | [] => some []
  | .int i :: r => (intsOf r).map (i :: ·)
  | _ :: _ => none
theorem intsOf_eq : ∀ {ds : List D} {ns : List Int}, intsOf ds = some ns → ds = ns.map PyData.int
  | [], ns, h => by simp [intsOf] at h; subst h; rfl
  | .int i :: r, ns, h => by
    cases q : intsOf r with
    | none => simp [intsOf, q] at h
    | some ms =>
      simp [intsOf, q] at h
      subst h
      rw [intsOf_eq q]; rfl
  | .none :: _, _, h | .bool _ :: _, _, h | .str _ :: _, _, h | .list _ :: _, _, h | .tuple _ :: _, _, h | .dict _ :: _, _, h => by simp [intsOf] at h
def shaped (d : D) : Bool := SeqAt.shaped d
def isNone : D → Bool
  | .none => true
  | _ => false
def dCmp : CmpOp → D → D → Option Bool
  | .Eq, a, b => if shaped a && shaped b then some (PyData.eqv a b) else none
  | .NotEq, a, b => if shaped a && shaped b then some (!PyData.eqv a b) else none
  | .Lt, .int i, .int j => some (decide (i < j))
  | .Lt, .tuple a, .tuple b => match intsOf a, intsOf b with
    | some ns, some ms => some (HT.lexLt ns ms)
    | _, _ => none
  | .LtE, .int i, .int j => some (decide (i ≤ j))
  | .Gt, .int i, .int j => some (decide (j < i))
  | .GtE, .int i, .int j => some (decide (j ≤ i))
  | .Is, a, .none => some (isNone a)
  | .IsNot, a, .none => some (!isNone a)
  | .In, .str a, .str b => some (!(Builtin.Str.occurrences b a 0 b.length 1).isEmpty)
  | .NotIn, .str a, .str b => some (!(!(Builtin.Str.occurrences b a 0 b.length 1).isEmpty))
  | .In, a, .list ds => if shaped a && shaped (.list ds) then some (ds.any fun z => PyData.eqv z a) else none
  | .In, a, .tuple ds => if shaped a && shaped (.tuple ds) then some (ds.any fun z => PyData.eqv z a) else none
  | .NotIn, a, .list ds => if shaped a && shaped (.list ds) then some (!ds.any fun z => PyData.eqv z a) else none
  | .NotIn, a, .tuple ds => if shaped a && shaped (.tuple ds) then some (!ds.any fun z => PyData.eqv z a) else none
  | _, _, _ => none
def lift {α : Type} (x : Option α) (ρ : Rho) : O α := match x with | some z => .ok z ρ | none => .no

/-- what is wanted behind an operator that gives the data z -/
def rD (B : Bs) (g : D → D → Option D) : R2 := fun v w H Q => ∃ S ρ σ G x y z, EnvOk B S ρ σ H G ∧ Dp B.K G v x ∧ Dp B.K G w y ∧ g x y = some z ∧ ∀ H' G', EnvOk B S ρ σ H' G' → Le G G' → ∀ u, Dp B.K G' u z → Q u H'
def s2 (g : D → D → Option D) (fa fb : Rho → O D) : Rho → O D := fun ρ => (fa ρ).bind fun x ρ1 => (fb ρ1).bind fun y ρ2 => lift (g x y) ρ2
section
variable {X : Cx} {B : Bs} {Wx : WX}
theorem tOp_of {g : D → D → Option D} {fa fb : Rho → O D} {σ : St} {H : Hp} {Q : VK} (h : tEv B Wx (s2 g fa fb) σ H Q) : tOp (rD B g) (tEv B Wx fa) (tEv B Wx fb) σ H Q := by
  obtain ⟨S, ρ, G, E, P⟩ := h
  refine ⟨S, ρ, G, E, P.bind.imp fun x ρ1 H1 G1 E1 le1 q1 v hv => ?_⟩
  refine ⟨S, ρ1, G1, E1, q1.bind.imp fun y ρ2 H2 G2 E2 le2 q2 w hw => ?_⟩
  cases e : g x y with
  | none => rw [e] at q2; exact False.elim q2
  | some z =>
    rw [e] at q2
    exact ⟨S, ρ2, σ, G2, x, y, z, E2, Dp.up le2 hv, hw, e, fun H' G' E' le u hu => q2 H' G' E' le u hu⟩
theorem r_bin {op : Operator} {g : D → D → Option D} {a b : Expr} {pos : Pos} {fa fb : Rho → O D} (ho : OpR X (binaryOp op) (rD B g)) (ha : PE X a (tEv B Wx fa)) (hb : PE X b (tEv B Wx fb)) : PE X (.BinOp a op b pos) (tEv B Wx (s2 g fa fb)) :=
  (pe_op ho ha hb).imp' fun σ H Q h => tOp_of h

/-! ### the operators' rules by data -/
/-- xs + ys, of any lists that are read -/
theorem op_catL : OpR X (binaryOp .Add) (fun x y H Q => ∃ l b xs zs, x = .ref l ∧ y = .ref b ∧ SqL X.K H l xs ∧ SqL X.K H b zs ∧ xs.length + zs.length ≤ sizeLine ∧ ∀ p, H p = none → Q (.ref p) (upd H p (.lst (xs ++ zs)))) := by
  intro pins s σ H x y v u Q I rx ry h
  obtain ⟨l, b, xs, zs, rfl, rfl, hH, hB, hz, q⟩ := h
  cases rx
  cases ry
  obtain ⟨its, r, pl, hl⟩ := I.list hH
  obtain ⟨its2, r2, pl2, hl2⟩ := I.list hB
  obtain ⟨⟨cls, dd, data, sl⟩, ho, hc, n, hd⟩ := id pl.isList
  obtain ⟨⟨cls2, dd2, data2, sl2⟩, ho2, hc2, n2, hd2⟩ := id pl2.isList
  simp only at hc hd hc2 hd2
  subst hc hd hc2 hd2
  have e : its.toArray ++ its2.toArray = (its ++ its2).toArray := by simp
  have e1 := r.length
  have e2 := r2.length
  refine concat_meets ⟨_, ho, rfl⟩ ⟨_, ho2, rfl⟩ noFill_list_add seq_list_add PySem.F.slot_list_add PySem.F.entry_list_add (PySem.F.args_list_add_2 _ _) (list_addW l b its.toArray its2.toArray n n2 dd dd2 sl sl2 (by rw [List.size_toArray, List.size_toArray]; omega)) ⟨ho, ho2, ?_⟩
  rw [e]
  exact ⟨.ref _, _, I.lnew (t' := s.toks) (r.append r2) (by rw [List.length_append]; omega), rfl, q _ I.fresh⟩
theorem dint {K : PySem.W.Frag} {G : Hp} {v : V} {i : Int} (h : Dp K G v (.int i)) : v = .int i := by cases h; rfl
theorem dstr {K : PySem.W.Frag} {G : Hp} {v : V} {i : Str} (h : Dp K G v (.str i)) : v = .str i := by cases h; rfl
theorem dbl {K : PySem.W.Frag} {G : Hp} {v : V} {i : Bool} (h : Dp K G v (.bool i)) : v = .bl i := by cases h; rfl
theorem dnon {K : PySem.W.Frag} {G : Hp} {v : V} (h : Dp K G v .none) : v = .non := by cases h; rfl
theorem dlst {K : PySem.W.Frag} {G : Hp} {v : V} {ds : List D} (h : Dp K G v (.list ds)) : ∃ a xs, v = .ref a ∧ SqL K G a xs ∧ DpAll K G xs ds := by cases h with | lst s a => exact ⟨_, _, rfl, s, a⟩
theorem dtup {K : PySem.W.Frag} {G : Hp} {v : V} {ds : List D} (h : Dp K G v (.tuple ds)) : ∃ a xs, v = .ref a ∧ SqT K G a xs ∧ DpAll K G xs ds := by cases h with | tup s a => exact ⟨_, _, rfl, s, a⟩
theorem ddict {K : PySem.W.Frag} {G : Hp} {v : V} {ds : List (D × D)} (h : Dp K G v (.dict ds)) : False := by cases h
theorem SqL.le {K : PySem.W.Frag} {G H : Hp} {a : Addr} {xs : List V} (le : Le G H) (h : SqL K G a xs) : SqL K H a xs := h.imp (fun r => r.imp (le _ _) fun ⟨o, q⟩ => ⟨o, le _ _ q⟩) id
theorem SqT.le {K : PySem.W.Frag} {G H : Hp} {a : Addr} {xs : List V} (le : Le G H) (h : SqT K G a xs) : SqT K H a xs := h.imp (fun r => r.imp (le _ _) fun ⟨o, q⟩ => ⟨o, le _ _ q⟩) id
theorem line_eq : (sizeLine : Nat) = 16777216 := sizeLine_eq
/-- an int that an operator makes of two ints -/
theorem ints_of {f : Value → Value → Sem Value} {Cc : Int → Int → Prop} {g : Int → Int → Int} (h : OpR X f (rI Cc fun i j => .int (g i j))) {pins : List (Addr × Obj)} {s : Shared} {σ : St} {H : Hp} {v w : V} {u u' : Value} {Q : VK} {i j : Int} (I : Inv X pins σ H s) (ru : RelV v u) (ru' : RelV w u')
    (ev : v = .int i) (ew : w = .int j) (hc : Cc i j) (q : Q (.int (g i j)) H) : wpAny (model X.prog X.w) X.A (f u u') (EP X pins σ Q) X.xe s := h pins s σ H v w u u' Q I ru ru' ⟨i, j, ev, ew, hc, q⟩
theorem op_fdivZ : OpR X (binaryOp .FloorDiv) (rI (fun _ j => j ≠ 0 ∧ j.natAbs.log2 < 9000) fun i j => .int (i.fdiv j)) := opI fun i j _ _ _ _ _ hc q => floordiv_int hc.1 q (.inl (PyProof.noPylong_of_log2 hc.2))
theorem opD_bin (hK : X.K = B.K) (op : Operator) : OpR X (binaryOp op) (rD B (dBin op)) := by
  intro pins s σ H v w u u' Q I ru ru' h
  obtain ⟨S, ρ, σ', G, x, y, z, E, hv, hw, e, q⟩ := h
  unfold dBin at e
  split at e
  · -- int + int
    cases e; rw [dint hv] at ru; rw [dint hw] at ru'
    exact op_add pins s σ H _ _ u u' Q I ru ru' ⟨_, _, rfl, rfl, q H G E Le.refl _ (.int _)⟩
  · split at e
    · rename_i hz
      cases e
      obtain ⟨a, xs, rfl, s1, a1⟩ := dlst hv
      obtain ⟨b, ys, rfl, t1, b1⟩ := dlst hw
      refine op_catL pins s σ H _ _ u u' Q I ru ru' ⟨a, b, xs, ys, rfl, rfl, hK ▸ SqL.le E.sub s1, hK ▸ SqL.le E.sub t1, ?_, fun p hp => ?_⟩
      · rw [line_eq, a1.length, b1.length]; exact hz
      · exact q _ (upd G p (.lst (xs ++ ys))) (E.new hp (fun _ => HO.noConfusion) (show (xs ++ ys).length ≤ sizeLine by rw [List.length_append, line_eq, a1.length, b1.length]; exact hz)) (Le.upd (E.gnone hp)) _ (.lst (SqL.of upd_same) (DpAll.up (Le.upd (E.gnone hp)) (a1.append b1)))
    · cases e
  · split at e
    · rename_i hz
      cases e
      obtain ⟨a, xs, rfl, s1, a1⟩ := dtup hv
      obtain ⟨b, ys, rfl, t1, b1⟩ := dtup hw
      refine op_catA pins s σ H _ _ u u' Q I ru ru' ⟨a, b, xs, ys, rfl, rfl, hK ▸ SqT.le E.sub s1, hK ▸ SqT.le E.sub t1, ?_, fun e0 => ?_, fun _ e0 => ?_, fun _ _ p hp => ?_⟩
      · rw [line_eq, a1.length, b1.length]; exact hz
      · refine q H G E Le.refl _ ?_
        rw [a1.nil_iff.mp e0, List.nil_append]; exact hw
      · refine q H G E Le.refl _ ?_
        rw [b1.nil_iff.mp e0, List.append_nil]; exact hv
      · exact q _ (upd G p (.tup (xs ++ ys))) (E.new hp (fun _ => HO.noConfusion) (show (xs ++ ys).length ≤ sizeLine by rw [List.length_append, line_eq, a1.length, b1.length]; exact hz)) (Le.upd (E.gnone hp)) _ (.tup (SqT.of upd_same) (DpAll.up (Le.upd (E.gnone hp)) (a1.append b1)))
    · cases e
  · split at e
    · rename_i hz
      cases e; rw [dstr hv] at ru; rw [dstr hw] at ru'
      exact op_add_str pins s σ H _ _ u u' Q I ru ru' ⟨_, _, rfl, rfl, by rw [line_eq]; exact hz, q H G E Le.refl _ (.str _)⟩
    · cases e
  · cases e; rw [dint hv] at ru; rw [dint hw] at ru'
    exact op_sub pins s σ H _ _ u u' Q I ru ru' ⟨_, _, rfl, rfl, q H G E Le.refl _ (.int _)⟩
  · split at e
    · rename_i hz
      cases e; rw [dint hv] at ru; rw [dint hw] at ru'
      exact op_mulW pins s σ H _ _ u u' Q I ru ru' ⟨_, _, rfl, rfl, hz, q H G E Le.refl _ (.int _)⟩
    · cases e
  · split at e
    · rename_i hz
      cases e
      obtain ⟨a, xs, rfl, s1, a1⟩ := dtup hv
      rw [dint hw] at ru'
      refine op_repT pins s σ H _ _ u u' Q I ru ru' ⟨a, _, xs, rfl, rfl, hK ▸ SqT.le E.sub s1, fun z => hz.1 (a1.nil_iff.mp z), hz.2.1, hz.2.2.1, by rw [a1.length]; exact hz.2.2.2, fun p hp => ?_⟩
      have hl : ∀ m : Nat, m ≤ 1000 → (List.replicate m xs).flatten.length ≤ sizeLine := fun m hm => by
        rw [PyProof.Rows.lm_len_rep_flat, line_eq, a1.length]
        have := Nat.mul_le_mul hm hz.2.2.2
        omega
      exact q _ (upd G p _) (E.new (o := .tup _) hp (fun _ => HO.noConfusion) (hl _ (by have := hz.2.2.1; omega))) (Le.upd (E.gnone hp)) _ (.tup (SqT.of upd_same) (DpAll.up (Le.upd (E.gnone hp)) (a1.rep _)))
    · cases e
  · split at e
    · rename_i hz
      cases e; rw [dint hv] at ru; rw [dint hw] at ru'
      exact op_fdivZ pins s σ H _ _ u u' Q I ru ru' ⟨_, _, rfl, rfl, hz, q H G E Le.refl _ (.int _)⟩
    · cases e
  · split at e
    · rename_i hz
      cases e; rw [dint hv] at ru; rw [dint hw] at ru'
      exact op_modN pins s σ H _ _ u u' Q I ru ru' ⟨_, _, rfl, rfl, hz, q H G E Le.refl _ (.int _)⟩
    · cases e
  · split at e
    · rename_i hz
      cases e; rw [dint hv] at ru; rw [dint hw] at ru'
      exact op_pow pins s σ H _ _ u u' Q I ru ru' ⟨_, _, rfl, rfl, hz, q H G E Le.refl _ (.int _)⟩
    · cases e
  · cases e
theorem op_inT (hu : X.A.units + 65 < cLine) : OpR X (compareOp .In) (fun x y H Q => ∃ d ds, Dp X.K H x d ∧ Dp X.K H y (.tuple ds) ∧ SeqAt.shaped d = true ∧ SeqAt.shaped (.tuple ds) = true ∧ Q (.bl (ds.any fun z => PyData.eqv z d)) H) := by
  intro pins s σ H x y v u Q I rx ry h
  obtain ⟨d, ds, hd, he, sd, se, q⟩ := h
  obtain ⟨as, r1⟩ := Dp.reads I d x v hd rx
  obtain ⟨bs, r2⟩ := Dp.reads I (.tuple ds) y u he ry
  exact SeqAt.in_tuple_reads r2 r1 (SeqAt.canLay_of_shaped se) (SeqAt.canLay_of_shaped sd) (room_in_shaped sd hu) ⟨.bl _, H, I, rfl, q⟩
theorem op_notInT (hu : X.A.units + 65 < cLine) : OpR X (compareOp .NotIn) (fun x y H Q => ∃ d ds, Dp X.K H x d ∧ Dp X.K H y (.tuple ds) ∧ SeqAt.shaped d = true ∧ SeqAt.shaped (.tuple ds) = true ∧ Q (.bl (!ds.any fun z => PyData.eqv z d)) H) := by
  intro pins s σ H x y v u Q I rx ry h
  obtain ⟨d, ds, hd, he, sd, se, q⟩ := h
  obtain ⟨as, r1⟩ := Dp.reads I d x v hd rx
  obtain ⟨bs, r2⟩ := Dp.reads I (.tuple ds) y u he ry
  exact SeqAt.notIn_tuple_reads r2 r1 (SeqAt.canLay_of_shaped se) (SeqAt.canLay_of_shaped sd) (room_in_shaped sd hu) ⟨.bl _, H, I, rfl, q⟩
theorem dp_none {K : PySem.W.Frag} {G : Hp} {v : V} {x : D} (h : Dp K G v x) : decide (v = V.non) = isNone x := by
  cases h <;> simp [isNone]
theorem opD_cmp (hK : X.K = B.K) (hu : X.A.units + 65 < cLine) (op : CmpOp) : OpR X (compareOp op) (rD B fun x y => (dCmp op x y).map PyData.bool) := by
  intro pins s σ H v w u u' Q I ru ru' h
  obtain ⟨S, ρ, σ', G, x, y, z, E, hv, hw, e, q⟩ := h
  have hv' : Dp X.K H v x := hK ▸ Dp.up E.sub hv
  have hw' : Dp X.K H w y := hK ▸ Dp.up E.sub hw
  have e : (dCmp op x y).map PyData.bool = some z := e
  have fin : ∀ b, dCmp op x y = some b → Q (.bl b) H := fun b eb => by
    rw [eb] at e; cases e
    exact q H G E Le.refl _ (.bl b)
  cases eb : dCmp op x y with
  | none => rw [eb] at e; cases e
  | some b =>
    have fb := fin b eb
    have hu0 : X.A.units < cLine := by omega
    have hu1 : X.A.units + 64 < cLine := by omega
    unfold dCmp at eb
    split at eb
    · split at eb
      · rename_i hs; cases eb
        rw [Bool.and_eq_true] at hs
        exact op_eqD hu1 pins s σ H v w u u' Q I ru ru' ⟨_, _, hv', hw', hs.1, hs.2, fb⟩
      · cases eb
    · split at eb
      · rename_i hs; cases eb
        rw [Bool.and_eq_true] at hs
        exact op_neD hu1 pins s σ H v w u u' Q I ru ru' ⟨_, _, hv', hw', hs.1, hs.2, fb⟩
      · cases eb
    · cases eb
      exact op_lt pins s σ H v w u u' Q I ru ru' ⟨_, _, dint hv, dint hw, fb⟩
    · split at eb
      · rename_i ns ms h1 h2; cases eb
        obtain ⟨a, xs, rfl, s1, a1⟩ := dtup hv'
        obtain ⟨b, ys, rfl, t1, b1⟩ := dtup hw'
        rw [intsOf_eq h1] at a1
        rw [intsOf_eq h2] at b1
        rw [a1.ints] at s1
        rw [b1.ints] at t1
        exact op_ltT hu0 pins s σ H _ _ u u' Q I ru ru' ⟨a, b, ns, ms, rfl, rfl, s1, t1, fb⟩
      · cases eb
    · cases eb
      exact op_le pins s σ H v w u u' Q I ru ru' ⟨_, _, dint hv, dint hw, fb⟩
    · cases eb
      exact op_gt pins s σ H v w u u' Q I ru ru' ⟨_, _, dint hv, dint hw, fb⟩
    · cases eb
      exact op_ge pins s σ H v w u u' Q I ru ru' ⟨_, _, dint hv, dint hw, fb⟩
    · cases eb
      refine op_isN pins s σ H v w u u' Q I ru ru' ⟨dnon hw, ?_⟩
      rw [dp_none hv]; exact fb
    · cases eb
      refine op_notN pins s σ H v w u u' Q I ru ru' ⟨dnon hw, ?_⟩
      rw [dp_none hv]; exact fb
    · cases eb
      exact op_in_str pins s σ H v w u u' Q I ru ru' ⟨_, _, dstr hv, dstr hw, fb⟩
    · cases eb
      exact op_notin_str pins s σ H v w u u' Q I ru ru' ⟨_, _, dstr hv, dstr hw, fb⟩
    · split at eb
      · rename_i hs; cases eb
        rw [Bool.and_eq_true] at hs
        exact op_inD hu pins s σ H v w u u' Q I ru ru' ⟨_, _, hv', hw', hs.1, hs.2, fb⟩
      · cases eb
    · split at eb
      · rename_i hs; cases eb
        rw [Bool.and_eq_true] at hs
        exact op_inT hu pins s σ H v w u u' Q I ru ru' ⟨_, _, hv', hw', hs.1, hs.2, fb⟩
      · cases eb
    · split at eb
      · rename_i hs; cases eb
        rw [Bool.and_eq_true] at hs
        exact op_notInD hu pins s σ H v w u u' Q I ru ru' ⟨_, _, hv', hw', hs.1, hs.2, fb⟩
      · cases eb
    · split at eb
      · rename_i hs; cases eb
        rw [Bool.and_eq_true] at hs
        exact op_notInT hu pins s σ H v w u u' Q I ru ru' ⟨_, _, hv', hw', hs.1, hs.2, fb⟩
      · cases eb
    · cases eb
end
end Rf

set_option maxRecDepth 100000
set_option maxHeartbeats 4000000
namespace Rf
open PySem PySem.Spec PyProof.Rows L2
theorem ifT {A B : Prop} (h : A) : if true = true then A else B := by rw [if_pos rfl]; exact h
theorem ifF {A B : Prop} (h : B) : if false = true then A else B := by rw [if_neg Bool.false_ne_true]; exact h
section
variable {X : Cx} {B : Bs} {Wx : WX}
/-! ### comparisons, tests -/
def bCmp (op : CmpOp) : D → D → Option D := fun x y => (dCmp op x y).map PyData.bool
theorem tEt_to {f : Rho → O D} {σ : St} {H : Hp} {Q : Bool → Hp → Prop} (h : tEt B Wx f σ H Q) : tEv B Wx f σ H (fun x H' => ∃ k, x = .bl k ∧ Q k H') := by
  obtain ⟨S, ρ, G, E, P⟩ := h
  refine ⟨S, ρ, G, E, P.imp fun d ρ1 H1 G1 E1 le1 q v hv => ?_⟩
  obtain ⟨b, rfl, q⟩ := q
  exact ⟨b, dbl hv, q⟩
theorem r_cmp {op : CmpOp} {a b : Expr} {pos : Pos} {fa fb : Rho → O D} (ho : OpR X (compareOp op) (rD B (bCmp op))) (ha : PE X a (tEv B Wx fa)) (hb : PE X b (tEv B Wx fb)) (hm : behindInMarks op b = false) : PE X (.Compare a [op] [b] pos) (tEv B Wx (s2 (bCmp op) fa fb)) :=
  (pe_cmpR ho ha hb hm).imp' fun σ H Q h => tOp_of h
theorem rt_cmp {op : CmpOp} {a b : Expr} {pos : Pos} {fa fb : Rho → O D} (ho : OpR X (compareOp op) (rD B (bCmp op))) (ha : PE X a (tEv B Wx fa)) (hb : PE X b (tEv B Wx fb)) (hm : behindInMarks op b = false) : PT X (.Compare a [op] [b] pos) (tEt B Wx (s2 (bCmp op) fa fb)) :=
  (pt_cmpR ho ha hb hm).imp' fun σ H Q h => tOp_of (tEt_to h)
theorem rt_val {e : Expr} {f : Rho → O D} (h : PE X e (tEv B Wx f)) (he : ∀ whole, isTrue e X.env whole = (do let v ← whole; standAt e.pos; holding [v] (truthy v))) : PT X e (tEt B Wx f) :=
  (pt_val h he).imp' fun σ H Q h => tEt_to h
def sCmp2 (op op' : CmpOp) (fa fb fc : Rho → O D) : Rho → O D := fun ρ => (fa ρ).bind fun x ρ1 => (fb ρ1).bind fun y ρ2 => match dCmp op x y with
  | some true => (fc ρ2).bind fun z ρ3 => lift (bCmp op' y z) ρ3
  | some false => .ok (.bool false) ρ2
  | none => .no
theorem tChain_of {op op' : CmpOp} {fa fb fc : Rho → O D} {σ : St} {H : Hp} {Q : VK} (h : tEv B Wx (sCmp2 op op' fa fb fc) σ H Q) : tChain (rD B (bCmp op)) (rD B (bCmp op')) (tEv B Wx fa) (tEv B Wx fb) (tEv B Wx fc) σ H Q := by
  obtain ⟨S, ρ, G, E, P⟩ := h
  refine ⟨S, ρ, G, E, P.bind.imp fun x ρ1 H1 G1 E1 le1 q1 v hv => ?_⟩
  refine ⟨S, ρ1, G1, E1, q1.bind.imp fun y ρ2 H2 G2 E2 le2 q2 w hw => ?_⟩
  cases e : dCmp op x y with
  | none => rw [e] at q2; exact False.elim q2
  | some b =>
    refine ⟨S, ρ2, σ, G2, x, y, .bool b, E2, Dp.up le2 hv, hw, by unfold bCmp; rw [e]; rfl, fun H' G' E' le u hu => ⟨b, dbl hu, ?_⟩⟩
    rw [e] at q2
    cases b with
    | false =>
      rw [if_neg Bool.false_ne_true]
      exact q2 H' G' E' le _ (.bl false)
    | true =>
      rw [if_pos rfl]
      have q2' := Post.le q2.bind le
      refine ⟨S, ρ2, G', E', q2'.imp fun z ρ3 H3 G3 E3 le3 q3 t ht => ?_⟩
      cases e3 : bCmp op' y z with
      | none => rw [e3] at q3; exact False.elim q3
      | some r =>
        rw [e3] at q3
        exact ⟨S, ρ3, σ, G3, y, z, r, E3, Dp.up (le.trans le3) hw, ht, e3, fun H4 G4 E4 le4 u hu => q3 H4 G4 E4 le4 u hu⟩
theorem r_cmp2 {op op' : CmpOp} {a b c : Expr} {pos : Pos} {fa fb fc : Rho → O D} (ho : OpR X (compareOp op) (rD B (bCmp op))) (ho' : OpR X (compareOp op') (rD B (bCmp op'))) (ha : PE X a (tEv B Wx fa)) (hb : PE X b (tEv B Wx fb)) (hc : PE X c (tEv B Wx fc))
    (hm : lastMarks [op, op'] [b, c] = false) : PE X (.Compare a [op, op'] [b, c] pos) (tEv B Wx (sCmp2 op op' fa fb fc)) :=
  (pe_chain ho ho' ha hb hc hm).imp' fun σ H Q h => tChain_of h
theorem rt_cmp2 {op op' : CmpOp} {a b c : Expr} {pos : Pos} {fa fb fc : Rho → O D} (ho : OpR X (compareOp op) (rD B (bCmp op))) (ho' : OpR X (compareOp op') (rD B (bCmp op'))) (ha : PE X a (tEv B Wx fa)) (hb : PE X b (tEv B Wx fb)) (hc : PE X c (tEv B Wx fc))
    (hm : lastMarks [op, op'] [b, c] = false) : PT X (.Compare a [op, op'] [b, c] pos) (tEt B Wx (sCmp2 op op' fa fb fc)) :=
  (pt_chain ho ho' ha hb hc hm).imp' fun σ H Q h => tChain_of (tEt_to h)

/-! ### and, or, not, if -/
def sAnd (fa fb : Rho → O D) : Rho → O D := fun ρ => (fa ρ).bind fun x ρ1 => match x with
  | .bool true => fb ρ1
  | .bool false => .ok (.bool false) ρ1
  | _ => .no
def sOr (fa fb : Rho → O D) : Rho → O D := fun ρ => (fa ρ).bind fun x ρ1 => match x with
  | .bool true => .ok (.bool true) ρ1
  | .bool false => fb ρ1
  | _ => .no
def sNot (fa : Rho → O D) : Rho → O D := fun ρ => (fa ρ).bind fun x ρ1 => match x with
  | .bool b => .ok (.bool (!b)) ρ1
  | _ => .no
def sIte (fc fa fb : Rho → O D) : Rho → O D := fun ρ => (fc ρ).bind fun x ρ1 => match x with
  | .bool true => fa ρ1
  | .bool false => fb ρ1
  | _ => .no
theorem r_and {a b : Expr} {rest : List Expr} {pos pos' : Pos} {fa fb : Rho → O D} (ha : PE X a (tEv B Wx fa)) (hb : PE X (.BoolOp .And (b :: rest) pos) (tEv B Wx fb)) : PE X (.BoolOp .And (a :: b :: rest) pos) (tEv B Wx (sAnd fa fb)) :=
  (pe_and ha hb).imp' fun σ H Q ⟨S, ρ, G, E, P⟩ => by
    refine ⟨S, ρ, G, E, P.bind.imp fun x ρ1 H1 G1 E1 le1 q v hv => ?_⟩
    split at q
    · exact ⟨true, dbl hv, ifT ⟨S, ρ1, G1, E1, q⟩⟩
    · exact ⟨false, dbl hv, ifF (q H1 G1 E1 Le.refl _ (.bl false))⟩
    · exact False.elim q
theorem r_or {a b : Expr} {rest : List Expr} {pos pos' : Pos} {fa fb : Rho → O D} (ha : PE X a (tEv B Wx fa)) (hb : PE X (.BoolOp .Or (b :: rest) pos) (tEv B Wx fb)) : PE X (.BoolOp .Or (a :: b :: rest) pos) (tEv B Wx (sOr fa fb)) :=
  (pe_or ha hb).imp' fun σ H Q ⟨S, ρ, G, E, P⟩ => by
    refine ⟨S, ρ, G, E, P.bind.imp fun x ρ1 H1 G1 E1 le1 q v hv => ?_⟩
    split at q
    · exact ⟨true, dbl hv, ifT (q H1 G1 E1 Le.refl _ (.bl true))⟩
    · exact ⟨false, dbl hv, ifF ⟨S, ρ1, G1, E1, q⟩⟩
    · exact False.elim q
theorem r_not {a : Expr} {pos : Pos} {fa : Rho → O D} (ha : PE X a (tEv B Wx fa)) : PE X (.UnaryOp .Not a pos) (tEv B Wx (sNot fa)) :=
  (pe_not ha).imp' fun σ H Q ⟨S, ρ, G, E, P⟩ => by
    refine ⟨S, ρ, G, E, P.bind.imp fun x ρ1 H1 G1 E1 le1 q v hv => ?_⟩
    split at q
    · exact ⟨_, dbl hv, q H1 G1 E1 Le.refl _ (.bl _)⟩
    · exact False.elim q
theorem rt_and {a b : Expr} {rest : List Expr} {pos : Pos} {fa fb : Rho → O D} (ha : PT X a (tEt B Wx fa)) (hb : PW X (.BoolOp .And (b :: rest) pos) (tEt B Wx fb)) : PW X (.BoolOp .And (a :: b :: rest) pos) (tEt B Wx (sAnd fa fb)) :=
  (pw_and ha hb).imp' fun σ H Q ⟨S, ρ, G, E, P⟩ => by
    refine ⟨S, ρ, G, E, P.bind.imp fun x ρ1 H1 G1 E1 le1 q => ?_⟩
    split at q
    · exact ⟨true, rfl, ifT ⟨S, ρ1, G1, E1, q⟩⟩
    · refine ⟨false, rfl, ifF ?_⟩
      obtain ⟨b, e, q⟩ := q H1 G1 E1 Le.refl
      cases e; exact q
    · exact False.elim q
theorem rt_or {a b : Expr} {rest : List Expr} {pos : Pos} {fa fb : Rho → O D} (ha : PT X a (tEt B Wx fa)) (hb : PW X (.BoolOp .Or (b :: rest) pos) (tEt B Wx fb)) : PW X (.BoolOp .Or (a :: b :: rest) pos) (tEt B Wx (sOr fa fb)) :=
  (pw_or ha hb).imp' fun σ H Q ⟨S, ρ, G, E, P⟩ => by
    refine ⟨S, ρ, G, E, P.bind.imp fun x ρ1 H1 G1 E1 le1 q => ?_⟩
    split at q
    · refine ⟨true, rfl, ifT ?_⟩
      obtain ⟨b, e, q⟩ := q H1 G1 E1 Le.refl
      cases e; exact q
    · exact ⟨false, rfl, ifF ⟨S, ρ1, G1, E1, q⟩⟩
    · exact False.elim q
theorem rt_not {a : Expr} {pos : Pos} {fa : Rho → O D} (ha : PT X a (tEt B Wx fa)) : PT X (.UnaryOp .Not a pos) (tEt B Wx (sNot fa)) :=
  (pt_not ha).imp' fun σ H Q ⟨S, ρ, G, E, P⟩ => by
    refine ⟨S, ρ, G, E, P.bind.imp fun x ρ1 H1 G1 E1 le1 q => ?_⟩
    split at q
    · refine ⟨_, rfl, ?_⟩
      obtain ⟨b, e, q⟩ := q H1 G1 E1 Le.refl
      cases e; exact q
    · exact False.elim q
theorem r_ite {c a b : Expr} {pos : Pos} {fc fa fb : Rho → O D} (hc : PT X c (tEt B Wx fc)) (ha : PE X a (tEv B Wx fa)) (hb : PE X b (tEv B Wx fb)) : PE X (.IfExp c a b pos) (tEv B Wx (sIte fc fa fb)) :=
  (pe_ifExp hc ha hb).imp' fun σ H Q ⟨S, ρ, G, E, P⟩ => by
    refine ⟨S, ρ, G, E, P.bind.imp fun x ρ1 H1 G1 E1 le1 q => ?_⟩
    split at q
    · exact ⟨true, rfl, ifT ⟨S, ρ1, G1, E1, q⟩⟩
    · exact ⟨false, rfl, ifF ⟨S, ρ1, G1, E1, q⟩⟩
    · exact False.elim q
def sNeg (fa : Rho → O D) : Rho → O D := fun ρ => (fa ρ).bind fun x ρ1 => match x with
  | .int i => .ok (.int (-i)) ρ1
  | _ => .no
theorem r_neg {a : Expr} {pos : Pos} {fa : Rho → O D} (ha : PE X a (tEv B Wx fa)) : PE X (.UnaryOp .USub a pos) (tEv B Wx (sNeg fa)) :=
  (pe_un un_neg ha).imp' fun σ H Q ⟨S, ρ, G, E, P⟩ => by
    refine ⟨S, ρ, G, E, P.bind.imp fun x ρ1 H1 G1 E1 le1 q v hv => ?_⟩
    split at q
    · exact ⟨_, dint hv, q H1 G1 E1 Le.refl _ (.int _)⟩
    · exact False.elim q

/-! ### subscripts -/
def dIx : D → D → Option D
  | .list xs, .int i => atI xs i
  | .tuple xs, .int i => atI xs i
  | .str z, .int i => if z.length ≤ 16777216 then (atI z.cps.toList i).map (fun c => .str ⟨#[c]⟩) else none
  | _, _ => none
theorem atI_dp {K : PySem.W.Frag} {G : Hp} {vs : List V} {ds : List D} {i : Int} {d : D} (h : DpAll K G vs ds) (e : atI ds i = some d) : ∃ v, atI vs i = some v ∧ Dp K G v d := by
  unfold atI at e ⊢
  rw [h.length]
  cases q : ixN ds.length i with
  | none => rw [q] at e; cases e
  | some j =>
    rw [q] at e
    exact h.get e
theorem opD_ix (hK : X.K = B.K) : IxR X (rD B dIx) := by
  intro value slice pins s σ H v w u u' Q I ru ru' h hs
  obtain ⟨S, ρ, σ', G, x, y, z, E, hv, hw, e, q⟩ := h
  unfold dIx at e
  split at e
  · obtain ⟨a, xs, rfl, s1, a1⟩ := dlst hv
    obtain ⟨t, h1, h2⟩ := atI_dp a1 e
    exact ix_list value slice pins s σ H _ _ u u' Q I ru ru' ⟨a, xs, _, t, rfl, dint hw, hK ▸ SqL.le E.sub s1, h1, q H G E Le.refl _ h2⟩ hs
  · obtain ⟨a, xs, rfl, s1, a1⟩ := dtup hv
    obtain ⟨t, h1, h2⟩ := atI_dp a1 e
    exact ix_tup value slice pins s σ H _ _ u u' Q I ru ru' ⟨a, xs, _, t, rfl, dint hw, hK ▸ SqT.le E.sub s1, h1, q H G E Le.refl _ h2⟩ hs
  · split at e
    · rename_i zs i hz
      cases e1 : atI zs.cps.toList i with
      | none => rw [e1] at e; cases e
      | some c =>
        rw [e1] at e; cases e
        exact ix_str value slice pins s σ H _ _ u u' Q I ru ru' ⟨_, _, c, dstr hv, dint hw, by rw [line_eq]; exact hz, e1, q H G E Le.refl _ (.str _)⟩ hs
    · cases e
  · cases e
theorem r_ix {a b : Expr} {pos : Pos} {fa fb : Rho → O D} (hK : X.K = B.K) (ha : PE X a (tEv B Wx fa)) (hb : PE X b (tEv B Wx fb)) (hs : PlainIx b) : PE X (.Subscript a b pos) (tEv B Wx (s2 dIx fa fb)) :=
  (pe_ix (opD_ix hK) ha hb hs).imp' fun σ H Q h => tOp_of h
/-- name[b]: the slot's list is not given away -/
def sIxv (i : Nat) (fb : Rho → O D) : Rho → O D := fun ρ => match ρ[i]? with
  | some (some (.dat d)) => (fb ρ).bind fun y ρ2 => lift (dIx d y) ρ2
  | some (some (.own _)) => (fb ρ).bind fun y ρ2 => match ρ2[i]? with
    | some (some (.own l)) => lift (dIx (.list l) y) ρ2
    | _ => .no
  | some (some (.ref _)) => (fb ρ).bind fun y ρ2 => match ρ2[i]? with
    | some (some (.ref l)) => lift (dIx (.list l) y) ρ2
    | _ => .no
  | _ => .no
theorem r_ixv {i : Nat} {x : Str} {b : Expr} {ps pos : Pos} {fb : Rho → O D} (hK : X.K = B.K) (hN : X.N[i]? = some x) (hv : Vis X.env.scope x) (hd : (x == ("__debug__" : Str)) = false) (hcd : (x == ("__classdict__" : Str)) = false) (hb : PE X b (tEv B Wx fb)) (hs : PlainIx b) :
    PE X (.Subscript (.Name x ps) b pos) (tEv B Wx (sIxv i fb)) :=
  pe_late fun σ H Q ⟨S, ρ, G, E, P⟩ => by
    have heldc : ∀ l0, Hd ρ i l0 → (∀ l y z ρ2 H2 G2, EnvOk B S ρ2 σ H2 G2 → Hd ρ2 i l → dIx (.list l) y = some z → ∀ w, Dp B.K G2 w y → (∀ H' G', EnvOk B S ρ2 σ H' G' → Le G2 G' → ∀ u, Dp B.K G' u z → Q u H') → ∃ a, σ[i]? = some (some (.ref a)) ∧ rIxL X.K (.ref a) w H2 Q) := by
      intro l0 _ l y z ρ2 H2 G2 E2 h2 e w hw q
      obtain ⟨a, vs, k1, k2, k3, k4, k5, _⟩ := E2.held i l h2
      unfold dIx at e
      split at e
      · rename_i xs ii ex
        cases ex
        obtain ⟨t, t1, t2⟩ := atI_dp k4 e
        exact ⟨a, k1, a, vs, _, t, rfl, dint hw, SqL.of k2, t1, q H2 G2 E2 Le.refl _ t2⟩
      · rename_i ex; cases ex
      · rename_i ex; cases ex
      · cases e
    unfold sIxv at P
    split at P
    · rename_i d h
      obtain ⟨v, h1, h2⟩ := E.dat i d h
      refine ⟨_, pe_ix (opD_ix hK) (pe_var hN hv hd hcd) hb hs, ⟨v, h1, S, ρ, G, E, P.bind.imp fun y ρ2 H2 G2 E2 le2 q2 w hw => ?_⟩⟩
      cases e : dIx d y with
      | none => rw [e] at q2; exact False.elim q2
      | some z =>
        rw [e] at q2
        exact ⟨S, ρ2, σ, G2, d, y, z, E2, Dp.up le2 h2, hw, e, fun H' G' E' le u hu => q2 H' G' E' le u hu⟩
    · rename_i l0 h
      obtain ⟨a, vs, k1, _⟩ := E.held i l0 (.inl h)
      refine ⟨_, pe_ix ix_list (pe_var hN hv hd hcd) hb hs, ⟨.ref a, k1, S, ρ, G, E, P.bind.imp fun y ρ2 H2 G2 E2 le2 q2 w hw => ?_⟩⟩
      split at q2
      · rename_i l h2
        cases e : dIx (.list l) y with
        | none => rw [e] at q2; exact False.elim q2
        | some z =>
          rw [e] at q2
          obtain ⟨a', k1', r⟩ := heldc l0 (.inl h) l y z ρ2 H2 G2 E2 (.inl h2) e w hw fun H' G' E' le u hu => q2 H' G' E' le u hu
          rw [k1] at k1'; cases k1'
          exact r
      · exact False.elim q2
    · rename_i l0 h
      obtain ⟨a, vs, k1, _⟩ := E.held i l0 (.inr h)
      refine ⟨_, pe_ix ix_list (pe_var hN hv hd hcd) hb hs, ⟨.ref a, k1, S, ρ, G, E, P.bind.imp fun y ρ2 H2 G2 E2 le2 q2 w hw => ?_⟩⟩
      split at q2
      · rename_i l h2
        cases e : dIx (.list l) y with
        | none => rw [e] at q2; exact False.elim q2
        | some z =>
          rw [e] at q2
          obtain ⟨a', k1', r⟩ := heldc l0 (.inr h) l y z ρ2 H2 G2 E2 (.inr h2) e w hw fun H' G' E' le u hu => q2 H' G' E' le u hu
          rw [k1] at k1'; cases k1'
          exact r
      · exact False.elim q2
    · exact False.elim P
/-! ### slices -/
def cutL {α : Type} (xs : List α) (lo hi : Option Int) : List α := (xs.drop (HT.sIx xs.length 0 lo)).take (HT.sIx xs.length xs.length hi - HT.sIx xs.length 0 lo)
def dSl : D → Option Int → Option Int → Option D
  | .list xs, lo, hi => some (.list (cutL xs lo hi))
  | .tuple xs, lo, hi => some (.tuple (cutL xs lo hi))
  | .str z, lo, hi => if z.length ≤ 16777216 then some (.str (cutS z lo hi)) else none
  | _, _, _ => none
theorem cutL_whole {α : Type} {xs : List α} {lo hi : Option Int} (h : HT.sIx xs.length 0 lo = 0 ∧ HT.sIx xs.length xs.length hi = xs.length) : cutL xs lo hi = xs := by
  unfold cutL
  rw [h.1, h.2, List.drop_zero, Nat.sub_zero, List.take_length]
theorem cutV_le {xs : List V} {lo hi : Option Int} (h : xs.length ≤ sizeLine) : (cutV xs lo hi).length ≤ sizeLine := Nat.le_trans (cutV_length xs lo hi) h
theorem cut_dp {K : PySem.W.Frag} {G : Hp} {vs : List V} {ds : List D} (lo hi : Option Int) (h : DpAll K G vs ds) : DpAll K G (cutV vs lo hi) (cutL ds lo hi) := by
  unfold cutV cutL
  rw [h.length]
  exact (h.drop _).take _
def rDS (B : Bs) : V → Option Int → Option Int → Hp → VK → Prop := fun v lo hi H Q => ∃ S ρ σ G x z, EnvOk B S ρ σ H G ∧ Dp B.K G v x ∧ dSl x lo hi = some z ∧ ∀ H' G', EnvOk B S ρ σ H' G' → Le G G' → ∀ u, Dp B.K G' u z → Q u H'
theorem slD (hK : X.K = B.K) : SlR X (rDS B) := by
  intro pins s σ H v u vl vu lo hi sl Q I ru hs pl pu h
  obtain ⟨S, ρ, σ', G, x, z, E, hv, e, q⟩ := h
  unfold dSl at e
  split at e
  · cases e
    obtain ⟨a, xs, rfl, s1, a1⟩ := dlst hv
    refine sl_list pins s σ H _ u vl vu lo hi sl Q I ru hs pl pu ⟨a, xs, rfl, hK ▸ SqL.le E.sub s1, fun p hp => ?_⟩
    exact q _ (upd G p _) (E.new (o := .lst _) hp (fun _ => HO.noConfusion) (cutV_le (szl E s1))) (Le.upd (E.gnone hp)) _ (.lst (SqL.of upd_same) (DpAll.up (Le.upd (E.gnone hp)) (cut_dp lo hi a1)))
  · cases e
    obtain ⟨a, xs, rfl, s1, a1⟩ := dtup hv
    refine sl_tupA pins s σ H _ u vl vu lo hi sl Q I ru hs pl pu ⟨a, xs, rfl, hK ▸ SqT.le E.sub s1, fun hw => ?_, fun hw p hp => ?_⟩
    · refine q H G E Le.refl _ ?_
      rw [a1.length] at hw
      rw [cutL_whole hw]; exact hv
    · exact q _ (upd G p _) (E.new (o := .tup _) hp (fun _ => HO.noConfusion) (cutV_le (szt E s1))) (Le.upd (E.gnone hp)) _ (.tup (SqT.of upd_same) (DpAll.up (Le.upd (E.gnone hp)) (cut_dp lo hi a1)))
  · split at e
    · rename_i hz; cases e
      exact sl_str pins s σ H _ u vl vu lo hi sl Q I ru hs pl pu ⟨_, dstr hv, by rw [line_eq]; exact hz, q H G E Le.refl _ (.str _)⟩
    · cases e
  · cases e
def sPart (f : Option (Rho → O D)) : Rho → O (Option Int) := fun ρ => match f with
  | none => .ok none ρ
  | some f => (f ρ).bind fun x ρ1 => match x with
    | .int i => .ok (some i) ρ1
    | _ => .no
/-- a slice's part, read -/
def tPt (B : Bs) (Wx : WX) (f : Rho → O (Option Int)) : TO := fun σ H Q => ∃ S ρ G, EnvOk B S ρ σ H G ∧ Post B S Wx σ G (f ρ) (fun o _ H' _ => Q o H')
theorem rp_none : PO X none (tPt B Wx (sPart none)) := ⟨fun pins s σ H Q I ⟨S, ρ, G, E, P⟩ => po_none.run pins s σ H Q I (P H G E Le.refl)⟩
theorem rp_some {e : Expr} {f : Rho → O D} (h : PE X e (tEv B Wx f)) : PO X (some e) (tPt B Wx (sPart (some f))) := ⟨fun pins s σ H Q I ⟨S, ρ, G, E, P⟩ => (po_some h).run pins s σ H Q I (by
    refine ⟨S, ρ, G, E, P.bind.imp fun x ρ1 H1 G1 E1 le1 q v hv => ?_⟩
    split at q
    · exact ⟨_, dint hv, q H1 G1 E1 Le.refl⟩
    · exact False.elim q)⟩
def sSl (fa : Rho → O D) (fl fh : Rho → O (Option Int)) : Rho → O D := fun ρ => (fa ρ).bind fun x ρ1 => (fl ρ1).bind fun l ρ2 => (fh ρ2).bind fun h ρ3 => lift (dSl x l h) ρ3
theorem r_sl {e : Expr} {lo hi : Option Expr} {p2 pos : Pos} {fa : Rho → O D} {fl fh : Rho → O (Option Int)} (hK : X.K = B.K) (he : PE X e (tEv B Wx fa)) (hl : PO X lo (tPt B Wx fl)) (hh : PO X hi (tPt B Wx fh)) : PE X (.Subscript e (.Slice lo hi none p2) pos) (tEv B Wx (sSl fa fl fh)) :=
  (pe_slice (slD hK) he hl hh).imp' fun σ H Q ⟨S, ρ, G, E, P⟩ => by
    refine ⟨S, ρ, G, E, P.bind.imp fun x ρ1 H1 G1 E1 le1 q1 v hv => ?_⟩
    refine ⟨S, ρ1, G1, E1, q1.bind.imp fun l ρ2 H2 G2 E2 le2 q2 => ?_⟩
    refine ⟨S, ρ2, G2, E2, q2.bind.imp fun h ρ3 H3 G3 E3 le3 q3 => ?_⟩
    cases e : dSl x l h with
    | none => rw [e] at q3; exact False.elim q3
    | some z =>
      rw [e] at q3
      exact ⟨S, ρ3, σ, G3, x, z, E3, Dp.up (le2.trans le3) hv, e, fun H' G' E' le u hu => q3 H' G' E' le u hu⟩
/-- xs[::-1] of a list -/
def sRev (fa : Rho → O D) : Rho → O D := fun ρ => (fa ρ).bind fun x ρ1 => match x with
  | .list xs => .ok (.list xs.reverse) ρ1
  | _ => .no
theorem r_rev {e : Expr} {k : Nat} {p1 p2 p3 pos : Pos} {fa : Rho → O D} (hK : X.K = B.K) (he : PE X e (tEv B Wx fa)) : PE X (.Subscript e (.Slice none none (some (.UnaryOp .USub (.Constant (.int 1) k p1) p2)) p3) pos) (tEv B Wx (sRev fa)) :=
  (pe_revL he).imp' fun σ H Q ⟨S, ρ, G, E, P⟩ => by
    refine ⟨S, ρ, G, E, P.bind.imp fun x ρ1 H1 G1 E1 le1 q1 v hv => ?_⟩
    split at q1
    · obtain ⟨a, xs, rfl, s1, a1⟩ := dlst hv
      refine ⟨a, xs, rfl, hK ▸ SqL.le E1.sub s1, fun p hp => ?_⟩
      exact q1 _ (upd G1 p _) (E1.new (o := .lst _) hp (fun _ => HO.noConfusion) (show xs.reverse.length ≤ sizeLine by rw [List.length_reverse]; exact szl E1 s1)) (Le.upd (E1.gnone hp)) _ (.lst (SqL.of upd_same) (DpAll.up (Le.upd (E1.gnone hp)) a1.reverse))
    · exact False.elim q1
end
end Rf

set_option maxRecDepth 100000
set_option maxHeartbeats 4000000
namespace Rf
open PySem PySem.Spec PyProof.Rows L2
section
variable {X : Cx} {B : Bs} {Wx : WX}
/-! ### a situation of its own for a part -/
def reb (ρ : Rho) (σ : St) (H G : Hp) : Sit where
  W := fun a => H a = none ∨ (∃ i l, Hd ρ i l ∧ σ[i]? = some (some (.ref a))) ∨ ∃ (i : Nat) (ks : List (List Int)), ρ[i]? = some (some (C.dct ks)) ∧ σ[i]? = some (some (V.ref a))
  H0 := H
  G0 := G
  σ0 := σ
  ρ0 := ρ
  wn := fun _ h => .inl h
theorem EnvOk.reb {S : Sit} {ρ : Rho} {σ : St} {H G : Hp} (E : EnvOk B S ρ σ H G) : EnvOk B (reb ρ σ H G) ρ σ H G where
  sub := E.sub
  nt := E.nt
  sz := E.sz
  j := E.j
  keep := fun b o e _ _ => e
  there := fun b e => e
  gsub := fun b o e => e
  gnew := fun b o e => .inl e
  len := E.len
  dat := E.dat
  dct := fun i ks h => let ⟨a, h1, h2, h3, _⟩ := E.dct i ks h; ⟨a, h1, h2, h3, .inr (.inr ⟨i, ks, h, h1⟩)⟩
  raw := E.raw
  rel := E.rel
  dnq := E.dnq
  held := fun i l h => let ⟨a, vs, h1, h2, h3, h4, _, h6⟩ := E.held i l h; ⟨a, vs, h1, h2, h3, h4, .inr (.inl ⟨i, l, h, h1⟩), h6⟩
  ref := fun i l h => ⟨rfl, l, h⟩
  sep := E.sep
  isref := fun i l h => ⟨l, h⟩
theorem EnvOk.unreb {S : Sit} {ρ ρ' : Rho} {σ σ' : St} {H G H' G' : Hp} (E : EnvOk B S ρ σ H G) (E' : EnvOk B (Rf.reb ρ σ H G) ρ' σ' H' G') : EnvOk B S ρ' σ' H' G' := by
  have w : ∀ a, (Rf.reb ρ σ H G).W a → S.W a := fun a h => by
    rcases h with h | ⟨i, l, h, h1⟩ | ⟨i, ks, h, h1⟩
    · exact S.wn a (E.there a h)
    · obtain ⟨a', vs, k1, k2, k3, k4, k5, _⟩ := E.held i l h
      rw [h1] at k1; cases k1
      exact k5
    · obtain ⟨a', k1, k2, k3, k4⟩ := E.dct i ks h
      rw [h1] at k1; cases k1
      exact k4
  exact {
    sub := E'.sub
    nt := E'.nt
    sz := E'.sz
    j := E'.j
    keep := fun b o e n t => E'.keep b o (E.keep b o e n t) (fun z => n (w b z)) t
    there := fun b e => E.there b (E'.there b e)
    gsub := fun b o e => E'.gsub b o (E.gsub b o e)
    gnew := fun b o e => by
      rcases E'.gnew b o e with h | h
      · exact E.gnew b o h
      · exact .inr (w b h)
    len := E'.len
    dat := E'.dat
    dct := fun i ks h => let ⟨a, h1, h2, h3, h4⟩ := E'.dct i ks h; ⟨a, h1, h2, h3, w a h4⟩
    raw := E'.raw
    rel := E'.rel
    dnq := E'.dnq
    held := fun i l h => let ⟨a, vs, h1, h2, h3, h4, h5, h6⟩ := E'.held i l h; ⟨a, vs, h1, h2, h3, h4, w a h5, h6⟩
    ref := fun i l h => by
      obtain ⟨h1, l0, h2⟩ := E'.ref i l h
      obtain ⟨h3, h4⟩ := E.ref i l0 h2
      exact ⟨h1.trans h3, h4⟩
    sep := E'.sep
    isref := fun i l h => by
      obtain ⟨l1, h1⟩ := E.isref i l h
      exact E'.isref i l1 h1 }
/-- a list is no slot's dict -/
theorem EnvOk.nodct {S : Sit} {ρ : Rho} {σ : St} {H G : Hp} (E : EnvOk B S ρ σ H G) {p : Addr} {xs : List V} (hp : H p = some (.lst xs)) : ∀ (i : Nat) (ks : List (List Int)), ρ[i]? = some (some (C.dct ks)) → σ[i]? ≠ some (some (V.ref p)) := fun i ks h z => by
  obtain ⟨a, h1, h2, _⟩ := E.dct i ks h
  rw [z] at h1; cases h1
  rw [hp] at h2
  exact dk_lst _ (Option.some.inj h2).symm
/-- a list of no slot stays, and no slot gets it -/
theorem EnvOk.reb_keep {ρ ρ' : Rho} {σ σ' : St} {H G H' G' : Hp} {p : Addr} {o : HO} (E' : EnvOk B (Rf.reb ρ σ H G) ρ' σ' H' G') (hp : H p = some o) (nt : ∀ ps, o ≠ .tbl ps) (hg : G p = none) (lo : Loose ρ σ p) (nd : ∀ (i : Nat) (ks : List (List Int)), ρ[i]? = some (some (C.dct ks)) → σ[i]? ≠ some (some (V.ref p))) : H' p = some o ∧ G' p = none := by
  have nw : ¬ (Rf.reb ρ σ H G).W p := fun h => by
    rcases h with h | ⟨i, l, h, h1⟩ | ⟨i, ks, h, h1⟩
    · rw [hp] at h; cases h
    · exact lo i l h h1
    · exact nd i ks h h1
  refine ⟨E'.keep p o hp nw nt, ?_⟩
  cases q : G' p with
  | none => rfl
  | some u =>
    rcases E'.gnew p u q with h | h
    · have h : G p = some u := h
      rw [hg] at h; cases h
    · exact absurd h nw
theorem EnvOk.reb_loose {ρ ρ' : Rho} {σ σ' : St} {H G H' G' : Hp} {p : Addr} {o : HO} (E' : EnvOk B (Rf.reb ρ σ H G) ρ' σ' H' G') (hp : H p = some o) (lo : Loose ρ σ p) (nd : ∀ (i : Nat) (ks : List (List Int)), ρ[i]? = some (some (C.dct ks)) → σ[i]? ≠ some (some (V.ref p))) : Loose ρ' σ' p := fun i l h z => by
  obtain ⟨a, vs, h1, h2, h3, h4, h5, _⟩ := E'.held i l h
  rw [z] at h1; cases h1
  rcases h5 with h5 | ⟨j, m, h5, h6⟩ | ⟨j, ks, h5, h6⟩
  · rw [hp] at h5; cases h5
  · exact lo j m h5 h6
  · exact nd j ks h5 h6

/-! ### what is walked -/
def Feeds (B : Bs) (J : It) (G : Hp) (ds : List D) : Prop := ∀ S ρ σ H' G', EnvOk B S ρ σ H' G' → Le G G' →
  (∀ i d, ds[i]? = some d → J.go i H' ∧ ∀ x H'', J.yld i H' x H'' → ∃ G'', EnvOk B S ρ σ H'' G'' ∧ Le G' G'' ∧ Dp B.K G'' x d) ∧ J.stop ds.length H'
theorem Feeds.le {J : It} {G G' : Hp} {ds : List D} (h : Feeds B J G ds) (le : Le G G') : Feeds B J G' ds := fun S ρ σ H1 G1 E l => h S ρ σ H1 G1 E (le.trans l)
def tIt (B : Bs) (Wx : WX) (f : Rho → O (List D)) : TI := fun σ H R => ∃ S ρ G, EnvOk B S ρ σ H G ∧ Post B S Wx σ G (f ρ) (fun ds _ H' G' => ds.length ≤ sizeLine → ∀ J, Feeds B J G' ds → R J H')
theorem pi_late {tg e : Expr} {t : TI} (h : ∀ σ H R, t σ H R → ∃ t', PI X tg e t' ∧ t' σ H R) : PI X tg e t := ⟨fun pins s σ H R I q => let ⟨_, h1, h2⟩ := h σ H R q; h1.run pins s σ H R I h2⟩
def dItems : D → Option (List D)
  | .list xs => some xs
  | .tuple xs => some xs
  | _ => none
def sItems (fa : Rho → O D) : Rho → O (List D) := fun ρ => (fa ρ).bind fun x ρ1 => lift (dItems x) ρ1
theorem feeds_list (hK : X.K = B.K) {a : Addr} {xs : List V} {G : Hp} {ds : List D} (s1 : SqL B.K G a xs) (a1 : DpAll B.K G xs ds) : Feeds B (Itl X.K a) G ds := by
  intro S ρ σ H' G' E le
  have s2 : SqL X.K H' a xs := hK ▸ SqL.le (le.trans E.sub) s1
  refine ⟨fun i d hd => ?_, ⟨xs, s2, by rw [a1.length]; exact Nat.le_refl _⟩⟩
  obtain ⟨v, h1, h2⟩ := a1.get hd
  refine ⟨⟨xs, v, s2, h1⟩, fun x H'' h => ?_⟩
  obtain ⟨rfl, h⟩ := h
  have := h xs s2
  rw [h1] at this; cases this
  exact ⟨G', E, Le.refl, Dp.up le h2⟩
theorem feeds_tup (hK : X.K = B.K) {a : Addr} {xs : List V} {G : Hp} {ds : List D} (s1 : SqT B.K G a xs) (a1 : DpAll B.K G xs ds) : Feeds B (Itt X.K a) G ds := by
  intro S ρ σ H' G' E le
  have s2 : SqT X.K H' a xs := hK ▸ SqT.le (le.trans E.sub) s1
  refine ⟨fun i d hd => ?_, ⟨xs, s2, by rw [a1.length]; exact Nat.le_refl _⟩⟩
  obtain ⟨v, h1, h2⟩ := a1.get hd
  refine ⟨⟨xs, v, s2, h1⟩, fun x H'' h => ?_⟩
  obtain ⟨rfl, h⟩ := h
  have := h xs s2
  rw [h1] at this; cases this
  exact ⟨G', E, Le.refl, Dp.up le h2⟩
theorem ri_items {tg e : Expr} {fa : Rho → O D} (hK : X.K = B.K) (he : PE X e (tEv B Wx fa)) : PI X tg e (tIt B Wx (sItems fa)) :=
  pi_late fun σ H R ⟨S, ρ, G, E, P⟩ => by
    have P1 := P.bind
    cases q : fa ρ with
    | no => rw [q] at P1; exact False.elim P1
    | ex x ρ1 =>
      rw [q] at P1
      exact ⟨_, pi_list he, ⟨S, ρ, G, E, by rw [q]; exact P1⟩⟩
    | ok x ρ1 =>
      rw [q] at P1
      cases x with
      | list xs =>
        refine ⟨_, pi_list he, ⟨S, ρ, G, E, ?_⟩⟩
        rw [q]
        intro H1 G1 E1 le1 v hv
        obtain ⟨a, ys, rfl, s1, a1⟩ := dlst hv
        exact ⟨a, rfl, ⟨ys, hK ▸ SqL.le E1.sub s1⟩, P1 H1 G1 E1 le1 H1 G1 E1 Le.refl (by rw [← a1.length]; exact szl E1 s1) _ (feeds_list hK s1 a1)⟩
      | tuple xs =>
        refine ⟨_, pi_tup he, ⟨S, ρ, G, E, ?_⟩⟩
        rw [q]
        intro H1 G1 E1 le1 v hv
        obtain ⟨a, ys, rfl, s1, a1⟩ := dtup hv
        exact ⟨a, rfl, ⟨ys, hK ▸ SqT.le E1.sub s1⟩, P1 H1 G1 E1 le1 H1 G1 E1 Le.refl (by rw [← a1.length]; exact szt E1 s1) _ (feeds_tup hK s1 a1)⟩
      | none => exact (show False by have := P; unfold sItems at this; rw [q] at this; exact this).elim
      | bool _ => exact (show False by have := P; unfold sItems at this; rw [q] at this; exact this).elim
      | int _ => exact (show False by have := P; unfold sItems at this; rw [q] at this; exact this).elim
      | str _ => exact (show False by have := P; unfold sItems at this; rw [q] at this; exact this).elim
      | dict _ => exact (show False by have := P; unfold sItems at this; rw [q] at this; exact this).elim
end
end Rf

set_option maxRecDepth 100000
set_option maxHeartbeats 4000000
namespace Rf
open PySem PySem.Spec PyProof.Rows L2
/-! ### targets -/
inductive Tg where | nm (i : Nat) | tp (is : List Nat)
def Tg.slots : Tg → List Nat
  | .nm i => [i]
  | .tp is => is
def bindN (i : Nat) (d : D) (ρ : Rho) : Option Rho := match ρ[i]? with
  | none => none
  | some (some (.ref _)) => none
  | some _ => some (ρ.set i (some (.dat d)))
def bindL : List Nat → List D → Rho → Option Rho
  | [], [], ρ => some ρ
  | i :: is, d :: ds, ρ => (bindN i d ρ).bind (bindL is ds)
  | _, _, _ => none
def bindT : Tg → D → Rho → Option Rho
  | .nm i, d, ρ => bindN i d ρ
  | .tp is, .tuple ds, ρ => bindL is ds ρ
  | _, _, _ => none
def Off (is : List Nat) (σ σ' : St) : Prop := σ'.length = σ.length ∧ ∀ j : Nat, j ∉ is → σ'[j]? = σ[j]?
theorem Off.refl {is : List Nat} {σ : St} : Off is σ σ := ⟨rfl, fun _ _ => rfl⟩
theorem Off.trans {is : List Nat} {σ σ' σ'' : St} (a : Off is σ σ') (b : Off is σ' σ'') : Off is σ σ'' := ⟨b.1.trans a.1, fun j h => (b.2 j h).trans (a.2 j h)⟩
theorem Off.mono {is js : List Nat} {σ σ' : St} (a : Off is σ σ') (h : ∀ i ∈ is, i ∈ js) : Off js σ σ' := ⟨a.1, fun j n => a.2 j fun m => n (h j m)⟩
theorem Off.set {i : Nat} {σ : St} {x : Option V} : Off [i] σ (σ.set i x) := ⟨List.length_set .., fun j h => List.getElem?_set_ne (fun e => h (by simp [e]))⟩
theorem _root_.L2.PG.imp' {X : Cx} {e : Expr} {t t' : TG} (h : PG X e t) (i : ∀ v σ H Q, t' v σ H Q → t v σ H Q) : PG X e t' := ⟨fun pins s σ H v u Q I r q => h.run pins s σ H v u Q I r (i v σ H Q q)⟩
theorem _root_.L2.PGs.imp' {X : Cx} {e : List Expr} {t t' : TGs} (h : PGs X e t) (i : ∀ v σ H Q, t' v σ H Q → t v σ H Q) : PGs X e t' := ⟨fun pins s σ H v u Q I r q => h.run pins s σ H v u Q I r (i v σ H Q q)⟩
section
variable {X : Cx} {B : Bs} {Wx : WX}
theorem EnvOk.bindN {S : Sit} {ρ ρ' : Rho} {σ : St} {H G : Hp} {i : Nat} {v : V} {d : D} (E : EnvOk B S ρ σ H G) (h : Rf.bindN i d ρ = some ρ') (hd : Dp B.K G v d) : EnvOk B S ρ' (σ.set i (some v)) H G := by
  unfold Rf.bindN at h
  split at h
  · cases h
  · cases h
  · rename_i c n h1
    cases h
    exact E.put hd fun l z => by
      rw [h1] at z
      exact n l (Option.some.inj z)
/-- a target, by data -/
def tTg (B : Bs) (t : Tg) : TG := fun v σ H Q => ∃ S ρ G d ρ', EnvOk B S ρ σ H G ∧ Dp B.K G v d ∧ bindT t d ρ = some ρ' ∧ ∀ σ', EnvOk B S ρ' σ' H G → Off t.slots σ σ' → Q σ' H
def tTgs (B : Bs) (is : List Nat) : TGs := fun vs σ H Q => ∃ S ρ G ds ρ', EnvOk B S ρ σ H G ∧ DpAll B.K G vs ds ∧ bindL is ds ρ = some ρ' ∧ ∀ σ', EnvOk B S ρ' σ' H G → Off is σ σ' → Q σ' H
theorem rg_name {i : Nat} {x : Str} {pos : Pos} (hN : X.N.Nodup) (hi : X.N[i]? = some x) (hx : Loc X.env.scope x) (hf : X.fn x = true ∨ X.env.scope.names.lookup x = some .local) : PG X (.Name x pos) (tTg B (.nm i)) :=
  (pg_name hN hi hx hf).imp' fun v σ H Q ⟨S, ρ, G, d, ρ', E, hd, e, q⟩ => q _ (E.bindN e hd) Off.set
theorem rgs_nil : PGs X [] (tTgs B []) := pgs_nil.imp' fun vs σ H Q ⟨S, ρ, G, ds, ρ', E, hd, e, q⟩ => by
  cases ds with
  | nil => cases hd; cases e; exact ⟨rfl, q σ E Off.refl⟩
  | cons d ds => cases e
theorem rgs_cons {i : Nat} {is : List Nat} {x : Str} {pos : Pos} {es : List Expr} (hN : X.N.Nodup) (hi : X.N[i]? = some x) (hx : Loc X.env.scope x) (hf : X.fn x = true ∨ X.env.scope.names.lookup x = some .local) (h : PGs X es (tTgs B is))
    (hs : (assignEach (.Name x pos :: es) X.env).map (·.2) = assign (.Name x pos) X.env :: (assignEach es X.env).map (·.2)) : PGs X (.Name x pos :: es) (tTgs B (i :: is)) :=
  (pgs_cons (pg_name hN hi hx hf) h hs).imp' fun vs σ H Q ⟨S, ρ, G, ds, ρ', E, hd, e, q⟩ => by
    cases ds with
    | nil => cases e
    | cons d ds =>
      cases hd with
      | cons hv hr =>
        rename_i v vr _
        have e : (bindN i d ρ).bind (bindL is ds) = some ρ' := e
        cases e1 : bindN i d ρ with
        | none => rw [e1] at e; cases e
        | some ρ1 =>
          rw [e1] at e
          exact ⟨v, vr, rfl, S, ρ1, G, ds, ρ', E.bindN e1 hv, hr, e, fun σ' E' o => q σ' E' ((Off.set.mono fun j hj => by simp at hj; simp [hj]).trans (o.mono fun j hj => List.mem_cons_of_mem _ hj))⟩
theorem bindL_len : ∀ {is : List Nat} {ds : List D} {ρ ρ' : Rho}, bindL is ds ρ = some ρ' → is.length = ds.length
  | [], [], _, _, _ => rfl
  | [], _ :: _, _, _, h => by cases h
  | _ :: _, [], _, _, h => by cases h
  | i :: is, d :: ds, ρ, ρ', h => by
    have e : (bindN i d ρ).bind (bindL is ds) = some ρ' := h
    cases e1 : bindN i d ρ with
    | none => rw [e1] at e; cases e
    | some ρ1 =>
      rw [e1] at e
      rw [List.length_cons, List.length_cons, bindL_len (is := is) (ds := ds) e]
theorem rg_tup {is : List Nat} {es : List Expr} {k : Nat} {pos : Pos} (hK : X.K = B.K) (hc : X.calm = true) (h : PGs X es (tTgs B is)) (hn : (assignEach es X.env).length = is.length) (hst : (assignEach es X.env).findIdx? (·.1) = none) : PG X (.Tuple es k pos) (tTg B (.tp is)) :=
  (pg_tup hc h hn hst).imp' fun v σ H Q ⟨S, ρ, G, d, ρ', E, hd, e, q⟩ => by
    cases d with
    | tuple ds =>
      obtain ⟨a, xs, rfl, s1, a1⟩ := dtup hd
      exact ⟨a, xs, rfl, hK ▸ SqT.le E.sub s1, by rw [a1.length]; exact (bindL_len e).symm, S, ρ, G, ds, ρ', E, a1, e, q⟩
    | none => cases e
    | bool _ => cases e
    | int _ => cases e
    | str _ => cases e
    | list _ => cases e
    | dict _ => cases e

/-! ### what is walked: ranges, pairs -/
def rangeD (lo : Int) (n : Nat) : List D := (List.range n).map fun (i : Nat) => PyData.int (lo + (i : Int))
theorem rangeD_get {lo : Int} {n i : Nat} {d : D} (h : (rangeD lo n)[i]? = some d) : i < n ∧ d = .int (lo + (i : Int)) := by
  unfold rangeD at h
  rw [List.getElem?_map] at h
  cases e : (List.range n)[i]? with
  | none => rw [e] at h; cases h
  | some j =>
    rw [e] at h
    have hi := (List.getElem?_eq_some_iff.mp e).1
    have hj : (List.range n)[i]? = some i := by simp at hi; simp [hi]
    rw [hj] at e; cases e
    cases h
    exact ⟨by simpa using hi, rfl⟩
theorem rangeD_length {lo : Int} {n : Nat} : (rangeD lo n).length = n := by simp [rangeD]
theorem feeds_range {lo : Int} {n : Nat} {G : Hp} : Feeds B (Itr lo n) G (rangeD lo n) := by
  intro S ρ σ H' G' E le
  refine ⟨fun i d hd => ?_, by rw [rangeD_length]; exact Nat.le_refl _⟩
  obtain ⟨hi, rfl⟩ := rangeD_get hd
  refine ⟨hi, fun x H'' h => ?_⟩
  obtain ⟨rfl, rfl⟩ := h
  exact ⟨G', E, Le.refl, .int _⟩
def sRng (fa : Rho → O (List D)) : Rho → O (List D) := fun ρ => (fa ρ).bind fun ds ρ1 => match ds with
  | [.int j] => if -(2 ^ 62) ≤ j ∧ j ≤ 16777216 then .ok (rangeD 0 j.toNat) ρ1 else .no
  | [.int i, .int j] => if -(2 ^ 62) ≤ i ∧ i < 2 ^ 62 ∧ -(2 ^ 62) ≤ j ∧ j < 2 ^ 62 ∧ j - i ≤ 16777216 then .ok (rangeD i (j - i).toNat) ρ1 else .no
  | _ => .no
theorem ri_rng1 {tg a : Expr} {p pos : Pos} {fa : Rho → O (List D)} (hg : Gl X "range") (hm : X.mg "range" = none) (ha : PA X [a] (tEs B Wx fa)) (hs : starEach [a] X.env = [(false, eval a X.env)])
    (h1 : ∀ ρ ds ρ1, fa ρ = .ok ds ρ1 → ds.length = 1) : PI X tg (.Call (.Name "range" p) [a] [] pos) (tIt B Wx (sRng fa)) :=
  pi_late fun σ H R ⟨S, ρ, G, E, P⟩ => by
    refine ⟨_, pi_range1 hg hm ha hs, ⟨S, ρ, G, E, ?_⟩⟩
    have P1 := P.bind
    cases q : fa ρ with
    | no => rw [q] at P1; exact P1
    | ex e ρ1 => rw [q] at P1; exact P1
    | ok ds ρ1 =>
      rw [q] at P1
      have hl := h1 ρ ds ρ1 q
      match ds, hl with
      | [d], _ =>
        intro H1 G1 E1 le1 vs hvs
        have P2 := P1 H1 G1 E1 le1
        cases hvs with
        | cons hv hr =>
          cases hr
          cases d with
          | int j =>
            rw [dint hv]
            dsimp only at P2
            split at P2
            · rename_i hj
              exact ⟨j, rfl, hj.1, by omega, P2 H1 G1 E1 Le.refl (by rw [rangeD_length, line_eq]; omega) _ feeds_range⟩
            · exact False.elim P2
          | _ => exact False.elim P2
theorem ri_rng2 {tg a b : Expr} {p pos : Pos} {fa : Rho → O (List D)} (hg : Gl X "range") (hm : X.mg "range" = none) (ha : PA X [a, b] (tEs B Wx fa)) (hs : starEach [a, b] X.env = [(false, eval a X.env), (false, eval b X.env)]) (hs2 : starEach [b] X.env = [(false, eval b X.env)])
    (h1 : ∀ ρ ds ρ1, fa ρ = .ok ds ρ1 → ds.length = 2) : PI X tg (.Call (.Name "range" p) [a, b] [] pos) (tIt B Wx (sRng fa)) :=
  pi_late fun σ H R ⟨S, ρ, G, E, P⟩ => by
    refine ⟨_, pi_range2 hg hm ha hs hs2, ⟨S, ρ, G, E, ?_⟩⟩
    have P1 := P.bind
    cases q : fa ρ with
    | no => rw [q] at P1; exact P1
    | ex e ρ1 => rw [q] at P1; exact P1
    | ok ds ρ1 =>
      rw [q] at P1
      have hl := h1 ρ ds ρ1 q
      match ds, hl with
      | [d, d2], _ =>
        intro H1 G1 E1 le1 vs hvs
        have P2 := P1 H1 G1 E1 le1
        cases hvs with
        | cons hv hr =>
          cases hr with
          | cons hw hr =>
            cases hr
            cases d with
            | int i =>
              cases d2 with
              | int j =>
                rw [dint hv, dint hw]
                dsimp only at P2
                split at P2
                · rename_i hj
                  exact ⟨i, j, rfl, ⟨hj.1, hj.2.1, hj.2.2.1, hj.2.2.2.1⟩, P2 H1 G1 E1 Le.refl (by rw [rangeD_length, line_eq]; omega) _ feeds_range⟩
                · exact False.elim P2
              | _ => exact False.elim P2
            | _ => exact False.elim P2
def pairD : D → D → D := fun a b => .tuple [a, b]
theorem pair_new {S : Sit} {ρ : Rho} {σ : St} {H G : Hp} {T : Addr} {x y : V} {a b : D} (E : EnvOk B S ρ σ H G) (hT : H T = none) (hx : Dp B.K G x a) (hy : Dp B.K G y b) :
    ∃ G'', EnvOk B S ρ σ (upd H T (.tup [x, y])) G'' ∧ Le G G'' ∧ Dp B.K G'' (.ref T) (pairD a b) :=
  ⟨_, E.new hT (fun _ => HO.noConfusion) (show 2 ≤ sizeLine by decide), Le.upd (E.gnone hT), .tup (SqT.of upd_same) (DpAll.up (Le.upd (E.gnone hT)) (.cons hx (.cons hy .nil)))⟩
theorem zipWith_get {α β γ : Type} {f : α → β → γ} {xs : List α} {ys : List β} {i : Nat} {c : γ} (h : (List.zipWith f xs ys)[i]? = some c) : ∃ a b, xs[i]? = some a ∧ ys[i]? = some b ∧ c = f a b := by
  rw [List.getElem?_zipWith] at h
  split at h
  · rename_i a b h1 h2
    exact ⟨a, b, h1, h2, (Option.some.inj h).symm⟩
  · cases h
theorem feeds_zipL (hK : X.K = B.K) {a b : Addr} {xs ys : List V} {ds es : List D} {G : Hp} (s1 : SqL B.K G a xs) (a1 : DpAll B.K G xs ds) (t1 : SqL B.K G b ys) (b1 : DpAll B.K G ys es) : Feeds B (Itz X.K a b) G (List.zipWith pairD ds es) := by
  intro S ρ σ H' G' E le
  have s2 : SqL X.K H' a xs := hK ▸ SqL.le (le.trans E.sub) s1
  have t2 : SqL X.K H' b ys := hK ▸ SqL.le (le.trans E.sub) t1
  refine ⟨fun i d hd => ?_, ⟨xs, ys, s2, t2, ?_⟩⟩
  · obtain ⟨u, w, h1, h2, rfl⟩ := zipWith_get hd
    obtain ⟨v, h3, h4⟩ := a1.get h1
    obtain ⟨z, h5, h6⟩ := b1.get h2
    refine ⟨⟨xs, ys, v, z, s2, t2, h3, h5⟩, fun x H'' h => ?_⟩
    obtain ⟨T, x', y', rfl, hT, rfl, hx, hy⟩ := h
    have e1 := hx xs s2
    have e2 := hy ys t2
    rw [h3] at e1; rw [h5] at e2
    cases e1; cases e2
    exact pair_new E hT (Dp.up le h4) (Dp.up le h6)
  · rw [List.length_zipWith, a1.length, b1.length]; omega
theorem feeds_zipT (hK : X.K = B.K) {a b : Addr} {xs ys : List V} {ds es : List D} {G : Hp} (s1 : SqT B.K G a xs) (a1 : DpAll B.K G xs ds) (t1 : SqT B.K G b ys) (b1 : DpAll B.K G ys es) : Feeds B (RZ.ItzT X.K a b) G (List.zipWith pairD ds es) := by
  intro S ρ σ H' G' E le
  have s2 : SqT X.K H' a xs := hK ▸ SqT.le (le.trans E.sub) s1
  have t2 : SqT X.K H' b ys := hK ▸ SqT.le (le.trans E.sub) t1
  refine ⟨fun i d hd => ?_, ⟨xs, ys, s2, t2, ?_⟩⟩
  · obtain ⟨u, w, h1, h2, rfl⟩ := zipWith_get hd
    obtain ⟨v, h3, h4⟩ := a1.get h1
    obtain ⟨z, h5, h6⟩ := b1.get h2
    refine ⟨⟨xs, ys, v, z, s2, t2, h3, h5⟩, fun x H'' h => ?_⟩
    obtain ⟨T, x', y', rfl, hT, rfl, hx, hy⟩ := h
    have e1 := hx xs s2
    have e2 := hy ys t2
    rw [h3] at e1; rw [h5] at e2
    cases e1; cases e2
    exact pair_new E hT (Dp.up le h4) (Dp.up le h6)
  · rw [List.length_zipWith, a1.length, b1.length]; omega
def sZip (fa : Rho → O (List D)) : Rho → O (List D) := fun ρ => (fa ρ).bind fun ds ρ1 => match ds with
  | [.list xs, .list ys] => .ok (List.zipWith pairD xs ys) ρ1
  | [.tuple xs, .tuple ys] => .ok (List.zipWith pairD xs ys) ρ1
  | _ => .no
theorem ri_zip {e e2 : Expr} {p pos tpos : Pos} {elts : List Expr} {kk : Nat} {fa : Rho → O (List D)} (hK : X.K = B.K) (hg : Gl X "zip") (hm : X.mg "zip" = none) (ha : PA X [e, e2] (tEs B Wx fa)) (hs : starEach [e, e2] X.env = (false, eval e X.env) :: starEach [e2] X.env)
    (hpl : (backTo pos (starEach [e2] X.env)).any (·.1) = false) : PI X (.Tuple elts kk tpos) (.Call (.Name "zip" p) [e, e2] [] pos) (tIt B Wx (sZip fa)) :=
  pi_late fun σ H R ⟨S, ρ, G, E, P⟩ => by
    refine ⟨_, RZ.pi_zipA hg hm ha hs hpl, ⟨S, ρ, G, E, P.bind.imp fun ds ρ1 H1 G1 E1 le1 P2 vs hvs => ?_⟩⟩
    split at P2
    · cases hvs with
      | cons hv hr =>
        cases hr with
        | cons hw hr =>
          cases hr
          obtain ⟨a, xs, rfl, s1, a1⟩ := dlst hv
          obtain ⟨b, ys, rfl, t1, b1⟩ := dlst hw
          exact ⟨a, b, xs, ys, rfl, .inl ⟨hK ▸ SqL.le E1.sub s1, hK ▸ SqL.le E1.sub t1, P2 H1 G1 E1 Le.refl (by rw [List.length_zipWith, ← a1.length]; have := szl E1 s1; omega) _ (feeds_zipL hK s1 a1 t1 b1)⟩⟩
    · cases hvs with
      | cons hv hr =>
        cases hr with
        | cons hw hr =>
          cases hr
          obtain ⟨a, xs, rfl, s1, a1⟩ := dtup hv
          obtain ⟨b, ys, rfl, t1, b1⟩ := dtup hw
          exact ⟨a, b, xs, ys, rfl, .inr ⟨hK ▸ SqT.le E1.sub s1, hK ▸ SqT.le E1.sub t1, P2 H1 G1 E1 Le.refl (by rw [List.length_zipWith, ← a1.length]; have := szt E1 s1; omega) _ (feeds_zipT hK s1 a1 t1 b1)⟩⟩
    · exact False.elim P2
def enumD (xs : List D) : List D := List.zipWith pairD (rangeD 0 xs.length) xs
def sEnum (fa : Rho → O (List D)) : Rho → O (List D) := fun ρ => (fa ρ).bind fun ds ρ1 => match ds with
  | [.list xs] => .ok (enumD xs) ρ1
  | _ => .no
theorem ri_enum {e : Expr} {p pos tpos : Pos} {elts : List Expr} {kk : Nat} {fa : Rho → O (List D)} (hK : X.K = B.K) (hg : Gl X "enumerate") (hm : X.mg "enumerate" = none) (ha : PA X [e] (tEs B Wx fa)) (hs : starEach [e] X.env = [(false, eval e X.env)]) :
    PI X (.Tuple elts kk tpos) (.Call (.Name "enumerate" p) [e] [] pos) (tIt B Wx (sEnum fa)) :=
  pi_late fun σ H R ⟨S, ρ, G, E, P⟩ => by
    refine ⟨_, pi_enum hg hm ha hs, ⟨S, ρ, G, E, P.bind.imp fun ds ρ1 H1 G1 E1 le1 P2 vs hvs => ?_⟩⟩
    split at P2
    · cases hvs with
      | cons hv hr =>
        cases hr
        obtain ⟨a, xs, rfl, s1, a1⟩ := dlst hv
        refine ⟨a, xs, rfl, hK ▸ SqL.le E1.sub s1, P2 H1 G1 E1 Le.refl (by unfold enumD; rw [List.length_zipWith, ← a1.length]; have := szl E1 s1; omega) _ ?_⟩
        intro S ρ σ H' G' E le
        have s2 : SqL X.K H' a xs := hK ▸ SqL.le (le.trans E.sub) s1
        refine ⟨fun i d hd => ?_, ⟨xs, s2, ?_⟩⟩
        · obtain ⟨u, w, h1, h2, rfl⟩ := zipWith_get hd
          obtain ⟨_, rfl⟩ := rangeD_get h1
          obtain ⟨z, h5, h6⟩ := a1.get h2
          refine ⟨⟨xs, z, s2, h5⟩, fun x H'' h => ?_⟩
          obtain ⟨T, x', rfl, hT, rfl, hx⟩ := h
          have e1 := hx xs s2
          rw [h5] at e1; cases e1
          have := pair_new (x := .int (i : Nat)) (y := z) (a := .int (0 + (i : Int))) (b := w) E hT (by rw [Int.zero_add]; exact .int _) (Dp.up le h6)
          exact this
        · unfold enumD
          rw [List.length_zipWith, rangeD_length, a1.length]; omega
    · exact False.elim P2
end
end Rf

set_option maxRecDepth 100000
set_option maxHeartbeats 4000000
namespace Rf
open PySem PySem.Spec PyProof.Rows L2
/-! ### comprehensions -/
def wipeR (ρ : Rho) : List Nat → Rho
  | [] => ρ
  | v :: vs => (wipeR ρ vs).set v none
def restR (ρ0 ρ : Rho) : List Nat → Rho
  | [] => ρ
  | v :: vs => (restR ρ0 ρ vs).set v ((ρ0[v]?).getD none)
def plainC : Option (Option C) → Bool
  | some none => true
  | some (some (.dat _)) => true
  | _ => false
def notHeld (ρ : Rho) (vs : List Nat) : Bool := vs.all fun i => plainC ρ[i]?
def lcGo (t : Tg) (vs : List Nat) (fc fe : Rho → O D) : List D → Rho → O (List D)
  | [], ρ => .ok [] ρ
  | x :: xs, ρ => match bindT t x ρ with
    | none => .no
    | some ρ1 => match fc ρ1 with
      | .ok (.bool true) ρ2 => match fe ρ2 with
        | .ok y ρ3 => match lcGo t vs fc fe xs (wipeR ρ3 vs) with
          | .ok ys ρ4 => .ok (y :: ys) ρ4
          | _ => .no
        | _ => .no
      | .ok (.bool false) ρ2 => lcGo t vs fc fe xs (wipeR ρ2 vs)
      | _ => .no
def sLc (t : Tg) (vs : List Nat) (fi : Rho → O (List D)) (fc fe : Rho → O D) : Rho → O (List D) := fun ρ => (fi ρ).bind fun xs ρ1 =>
  if notHeld ρ1 vs then match lcGo t vs fc fe xs (wipeR ρ1 vs) with
    | .ok ys ρ2 => .ok ys (restR ρ1 ρ2 vs)
    | _ => .no
  else .no
theorem wipeR_length (ρ : Rho) : ∀ vs, (wipeR ρ vs).length = ρ.length
  | [] => rfl
  | v :: vs => by unfold wipeR; rw [List.length_set, wipeR_length ρ vs]
theorem restR_length (ρ0 ρ : Rho) : ∀ vs, (restR ρ0 ρ vs).length = ρ.length
  | [] => rfl
  | v :: vs => by unfold restR; rw [List.length_set, restR_length ρ0 ρ vs]
theorem wipeR_out {ρ : Rho} {i : Nat} : ∀ {vs : List Nat}, i ∉ vs → (wipeR ρ vs)[i]? = ρ[i]?
  | [], _ => rfl
  | v :: vs, h => by
    have h1 : v ≠ i := fun e => h (by rw [e]; exact List.mem_cons_self)
    unfold wipeR
    rw [List.getElem?_set_ne h1]
    exact wipeR_out fun m => h (List.mem_cons_of_mem _ m)
theorem restR_out {ρ0 ρ : Rho} {i : Nat} : ∀ {vs : List Nat}, i ∉ vs → (restR ρ0 ρ vs)[i]? = ρ[i]?
  | [], _ => rfl
  | v :: vs, h => by
    have h1 : v ≠ i := fun e => h (by rw [e]; exact List.mem_cons_self)
    unfold restR
    rw [List.getElem?_set_ne h1]
    exact restR_out fun m => h (List.mem_cons_of_mem _ m)
theorem restR_in {ρ0 ρ : Rho} {i : Nat} (hl : i < ρ.length) : ∀ {vs : List Nat}, i ∈ vs → (restR ρ0 ρ vs)[i]? = some ((ρ0[i]?).getD none)
  | [], h => by cases h
  | v :: vs, h => by
    unfold restR
    by_cases e : v = i
    · subst e
      rw [List.getElem?_set_self (by rw [restR_length]; exact hl)]
    · rw [List.getElem?_set_ne e]
      rcases List.mem_cons.mp h with h | h
      · exact absurd h.symm e
      · exact restR_in hl h
theorem wipe_ext {σ σ' : St} (hl : σ'.length = σ.length) : ∀ {vs : List Nat}, (∀ j : Nat, j ∉ vs → σ'[j]? = σ[j]?) → wipe σ' vs = wipe σ vs := by
  intro vs h
  have key : ∀ (τ : St) (vs : List Nat) (j : Nat), j ∈ vs → (wipe τ vs)[j]? = if j < τ.length then some none else none := by
    intro τ vs
    induction vs with
    | nil => intro j h; cases h
    | cons v vs ih =>
      intro j hj
      unfold wipe
      by_cases e : v = j
      · subst e
        by_cases q : v < τ.length
        · rw [List.getElem?_set_self (by rw [wipe_length]; exact q), if_pos q]
        · rw [if_neg q, List.getElem?_eq_none (by rw [List.length_set, wipe_length]; omega)]
      · rw [List.getElem?_set_ne e]
        rcases List.mem_cons.mp hj with hj | hj
        · exact absurd hj.symm e
        · exact ih j hj
  apply List.ext_getElem?
  intro j
  by_cases m : j ∈ vs
  · rw [key σ' vs j m, key σ vs j m, hl]
  · rw [wipe_out m, wipe_out m, h j m]
section
variable {X : Cx} {B : Bs} {Wx : WX} {S : Sit} {ρ : Rho} {σ : St} {H G : Hp}
/-- slots that hold no list are forgotten -/
theorem EnvOk.wipe (E : EnvOk B S ρ σ H G) : ∀ {vs : List Nat}, (∀ i : Nat, i ∈ vs → ∀ l, ρ[i]? ≠ some (some (.ref l))) → EnvOk B S (wipeR ρ vs) (L2.wipe σ vs) H G
  | [], _ => E
  | v :: vs, h => by
    have ih := E.wipe (vs := vs) fun i hi => h i (List.mem_cons_of_mem _ hi)
    refine ih.drop (i := v) fun l z => ?_
    by_cases m : v ∈ vs
    · have : ∀ ws : List Nat, v ∈ ws → (wipeR ρ ws)[v]? ≠ some (some (.ref l)) := by
        intro ws
        induction ws with
        | nil => intro h; cases h
        | cons w ws ih =>
          intro hw z
          unfold wipeR at z
          rcases get_set z with ⟨_, z⟩ | ⟨q, z⟩
          · cases z
          · rcases List.mem_cons.mp hw with e | e
            · exact q e.symm
            · exact ih e z
      exact this vs m z
    · rw [wipeR_out m] at z
      exact h v List.mem_cons_self l z
/-- a list of no slot changes -/
theorem EnvOk.upl (E : EnvOk B S ρ σ H G) {p : Addr} {vs ws : List V} (hp : H p = some (.lst vs)) (hg : G p = none) (hw : S.W p) (lo : Loose ρ σ p) : EnvOk B S ρ σ (upd H p (.lst ws)) G where
  sub := fun b o e => by rw [upd_ne (ne_of_none e hg)]; exact E.sub b o e
  nt := E.nt
  sz := E.sz
  j := B.js H _ E.j fun b o e n _ => by
    rw [upd_ne]
    · exact e
    · intro z; rw [z, hp] at e; exact n vs (Option.some.inj e).symm
  keep := fun b o e n t => by
    rw [upd_ne (fun z => n (by rw [z]; exact hw))]
    exact E.keep b o e n t
  there := fun b e => by
    by_cases q : b = p
    · rw [q, upd_same] at e; cases e
    · rw [upd_ne q] at e; exact E.there b e
  gsub := E.gsub
  gnew := E.gnew
  len := E.len
  dat := E.dat
  dct := fun i ks h => by
    obtain ⟨a, h1, h2, h3⟩ := E.dct i ks h
    exact ⟨a, h1, by rw [upd_ne (fun z => E.nodct hp i ks h (by rw [h1, z]))]; exact h2, h3⟩
  raw := E.raw
  rel := E.rel
  dnq := E.dnq
  held := fun i l h => by
    obtain ⟨a, us, h1, h2, h3, h4, h5⟩ := E.held i l h
    refine ⟨a, us, h1, ?_, h3, h4, h5⟩
    rw [upd_ne]
    · exact h2
    · intro z; rw [z] at h1; exact lo i l h h1
  ref := E.ref
  sep := E.sep
  isref := E.isref
/-- slots that were forgotten hold again what they held -/
theorem EnvOk.rest {ρ1 ρ2 : Rho} {vs : List Nat} {H1 G1 : Hp} (E1 : EnvOk B S ρ1 σ H1 G1) (n : notHeld ρ1 vs = true) (E : EnvOk B S ρ2 (L2.wipe σ vs) H G) (le : Le G1 G) (cl : ∀ i : Nat, i ∈ vs → ∀ c, ρ2[i]? ≠ some (some c)) : EnvOk B S (restR ρ1 ρ2 vs) σ H G := by
  have hl : ρ2.length = σ.length := by rw [E.len, wipe_length]
  have nh : ∀ i : Nat, i ∈ vs → plainC ρ1[i]? = true := fun i hi => List.all_eq_true.mp n i hi
  have hin : ∀ {i : Nat} {c : C}, i ∈ vs → (restR ρ1 ρ2 vs)[i]? = some (some c) → ∃ d, c = .dat d ∧ ρ1[i]? = some (some (.dat d)) := fun {i c} hi h => by
    have hlt : i < ρ2.length := by
      have := (List.getElem?_eq_some_iff.mp h).1
      rw [restR_length] at this; exact this
    rw [restR_in hlt hi] at h
    have q := nh i hi
    cases e : ρ1[i]? with
    | none => rw [e] at q; cases q
    | some x =>
      rw [e] at h q
      cases x with
      | none => cases h
      | some c' =>
        cases c' with
        | dat d => cases h; exact ⟨d, rfl, rfl⟩
        | own l => cases q
        | ref l => cases q
        | dct l => cases q
        | raw l => cases q
        | rel k l => cases q
  have hout : ∀ {i : Nat} {l : List D}, Hd (restR ρ1 ρ2 vs) i l → i ∉ vs ∧ Hd ρ2 i l := fun {i l} h => by
    by_cases m : i ∈ vs
    · rcases h with h | h
      · obtain ⟨d, e, _⟩ := hin m h; cases e
      · obtain ⟨d, e, _⟩ := hin m h; cases e
    · refine ⟨m, ?_⟩
      rcases h with h | h
      · rw [restR_out m] at h; exact .inl h
      · rw [restR_out m] at h; exact .inr h
  exact {
    sub := E.sub
    nt := E.nt
    sz := E.sz
    j := E.j
    keep := E.keep
    there := E.there
    gsub := E.gsub
    gnew := E.gnew
    len := by rw [restR_length]; exact hl
    dat := fun i d h => by
      by_cases m : i ∈ vs
      · obtain ⟨d', e, h1⟩ := hin m h
        cases e
        obtain ⟨v, k1, k2⟩ := E1.dat i d h1
        exact ⟨v, k1, Dp.up le k2⟩
      · rw [restR_out m] at h
        obtain ⟨v, k1, k2⟩ := E.dat i d h
        rw [wipe_out m] at k1
        exact ⟨v, k1, k2⟩
    dct := fun i ks h => by
      by_cases m : i ∈ vs
      · obtain ⟨d', e, h1⟩ := hin m h
        cases e
      · rw [restR_out m] at h
        obtain ⟨a, k1, k2⟩ := E.dct i ks h
        rw [wipe_out m] at k1
        exact ⟨a, k1, k2⟩
    raw := fun i v h => by
      by_cases m : i ∈ vs
      · obtain ⟨d', e, h1⟩ := hin m h
        cases e
      · rw [restR_out m] at h
        have k1 := E.raw i v h
        rw [wipe_out m] at k1
        exact k1
    rel := fun i k d h => by
      by_cases m : i ∈ vs
      · obtain ⟨d', e, h1⟩ := hin m h
        cases e
      · rw [restR_out m] at h
        obtain ⟨v, k1, k2⟩ := E.rel i k d h
        rw [wipe_out m] at k1
        exact ⟨v, k1, k2⟩
    dnq := fun i j ks ks' h1 h2 => by
      have nx : ∀ {i : Nat} {ks : List (List Int)}, (restR ρ1 ρ2 vs)[i]? = some (some (C.dct ks)) → i ∉ vs := fun {i ks} h m => by
        obtain ⟨d', e, _⟩ := hin m h
        cases e
      have n1 := nx h1
      have n2 := nx h2
      rw [restR_out n1] at h1
      rw [restR_out n2] at h2
      exact E.dnq i j ks ks' h1 h2
    held := fun i l h => by
      obtain ⟨m, h'⟩ := hout h
      obtain ⟨a, us, k1, r⟩ := E.held i l h'
      rw [wipe_out m] at k1
      exact ⟨a, us, k1, r⟩
    ref := fun i l h => by
      obtain ⟨m, _⟩ := hout (.inr h)
      rw [restR_out m] at h
      obtain ⟨k1, k2⟩ := E.ref i l h
      rw [wipe_out m] at k1
      exact ⟨k1, k2⟩
    sep := fun i j l m hij h1 h2 => by
      obtain ⟨m1, h1'⟩ := hout h1
      obtain ⟨m2, h2'⟩ := hout h2
      have := E.sep i j l m hij h1' h2'
      rw [wipe_out m1, wipe_out m2] at this
      exact this
    isref := fun i l h => by
      obtain ⟨l', h'⟩ := E.isref i l h
      by_cases m : i ∈ vs
      · exact absurd h' (cl i m _)
      · exact ⟨l', by rw [restR_out m]; exact h'⟩ }
theorem wipeR_clean {ρ : Rho} : ∀ {vs : List Nat} {i : Nat}, i ∈ vs → ∀ c, (wipeR ρ vs)[i]? ≠ some (some c)
  | [], _, h, _ => by cases h
  | v :: vs, i, h, c => fun z => by
    unfold wipeR at z
    rcases get_set z with ⟨_, z⟩ | ⟨q, z⟩
    · cases z
    · rcases List.mem_cons.mp h with e | e
      · exact q e.symm
      · exact wipeR_clean e c z
theorem EnvOk.noref {i : Nat} {l : List D} {S : Sit} (E : EnvOk B S ρ σ H G) (h : ρ[i]? = some (some (.ref l))) : ∃ l0, S.ρ0[i]? = some (some (.ref l0)) := (E.ref i l h).2
/-- the comprehension's reading, by data -/
theorem lc_read {t : Tg} {vs : List Nat} {fi : Rho → O (List D)} {fc fe : Rho → O D} {Q : VK} (ht : ∀ i ∈ t.slots, i ∈ vs) (h : tEo B Wx (sLc t vs fi fc fe) σ H Q) (Wy Wz : WX) :
    tLc (tIt B Wx fi) (tTg B t) (tEt B Wy fc) (tEv B Wz fe) vs σ H Q := by
  obtain ⟨S, ρ, G, E, P⟩ := h
  refine ⟨S, ρ, G, E, P.bind.imp fun xs ρ1 H1 G1 E1 le1 P1 hxs J FJ D hD => ?_⟩
  split at P1
  · rename_i nh
    cases eg : lcGo t vs fc fe xs (wipeR ρ1 vs) with
    | no => rw [eg] at P1; exact False.elim P1
    | ex e ρ2 => rw [eg] at P1; exact False.elim P1
    | ok ys ρ2 =>
      rw [eg] at P1
      have nr1 : ∀ i : Nat, i ∈ vs → ∀ l, ρ1[i]? ≠ some (some (.ref l)) := fun i hi l z => by
        have q := List.all_eq_true.mp nh i hi
        rw [z] at q; cases q
      obtain ⟨F1, F2, F3, F4, F5⟩ := E1.newl (vs := []) hD
      refine ⟨fun i m H => m = xs.length - i ∧ i ≤ xs.length ∧ ∃ ρi Gi acc accd rest, EnvOk B S ρi (L2.wipe σ vs) H Gi ∧ H D = some (.lst acc) ∧ Gi D = none ∧ Loose ρi (L2.wipe σ vs) D ∧ Le G1 Gi ∧ DpAll B.K Gi acc accd ∧
        lcGo t vs fc fe (xs.drop i) ρi = .ok rest ρ2 ∧ accd ++ rest = ys ∧ acc.length ≤ i ∧ (∀ j : Nat, j ∈ vs → ∀ c, ρi[j]? ≠ some (some c)), ⟨xs.length, by simp, Nat.zero_le _, wipeR ρ1 vs, G1, [], [], ys, F1.wipe nr1, F2, F3, ?_, Le.refl, .nil, eg, rfl, Nat.le_refl _, fun j hj => wipeR_clean hj⟩, ?_⟩
      · exact fun i l h z => by
          obtain ⟨a, us, k1, k2, _⟩ := (F1.wipe nr1).held i l h
          rw [z] at k1; cases k1
          obtain ⟨h1, h2⟩ := wipe_some (σ := σ) (i := i) (x := .ref D) (vs := vs) z
          have h' : Hd ρ1 i l := by
            rcases h with h | h
            · rw [wipeR_out h2] at h; exact .inl h
            · rw [wipeR_out h2] at h; exact .inr h
          exact F5 i l h' h1
      · rintro i m Hi ⟨rfl, hi, ρi, Gi, acc, accd, rest, Ei, hDi, gDi, loi, lei, dpi, gi, ei, li, cli⟩
        obtain ⟨fgo, fstop⟩ := FJ S ρi (L2.wipe σ vs) Hi Gi Ei lei
        by_cases hlt : i < xs.length
        · refine .inr ?_
          obtain ⟨x, hx⟩ : ∃ x, xs[i]? = some x := ⟨xs[i], by simp [hlt]⟩
          have hdrop : xs.drop i = x :: xs.drop (i + 1) := by
            rw [List.drop_eq_getElem_cons hlt]
            have : xs[i] = x := by
              have := List.getElem?_eq_getElem hlt
              rw [this] at hx; exact Option.some.inj hx
            rw [this]
          refine ⟨(fgo i x hx).1, ?_⟩
          let S' := Rf.reb ρi (L2.wipe σ vs) Hi Gi
          have Er := Ei.reb
          obtain ⟨rgo, _⟩ := FJ S' ρi (L2.wipe σ vs) Hi Gi Er lei
          have nt : ∀ ps, (HO.lst acc) ≠ .tbl ps := fun ps z => by cases z
          rw [hdrop] at gi
          unfold lcGo at gi
          refine ⟨fun H' => (xs.length - (i + 1)) = xs.length - (i + 1) ∧ i + 1 ≤ xs.length ∧ ∃ ρi Gi acc accd rest, EnvOk B S ρi (L2.wipe σ vs) H' Gi ∧ H' D = some (.lst acc) ∧ Gi D = none ∧ Loose ρi (L2.wipe σ vs) D ∧ Le G1 Gi ∧ DpAll B.K Gi acc accd ∧
            lcGo t vs fc fe (xs.drop (i + 1)) ρi = .ok rest ρ2 ∧ accd ++ rest = ys ∧ acc.length ≤ i + 1 ∧ (∀ j : Nat, j ∈ vs → ∀ c, ρi[j]? ≠ some (some c)), fun H' w => ⟨_, by omega, w⟩, fun xv H' hy => ?_⟩
          obtain ⟨G2, E2, le2, dp2⟩ := (rgo i x hx).2 xv H' hy
          cases eb : bindT t x ρi with
          | none => rw [eb] at gi; cases gi
          | some ρ3 =>
            rw [eb] at gi
            refine ⟨S', ρi, G2, x, ρ3, E2, dp2, eb, fun σ3 E3 off => ?_⟩
            have hw : L2.wipe σ3 vs = L2.wipe (L2.wipe σ vs) vs := wipe_ext off.1 fun j hj => off.2 j fun m => hj (ht j m)
            have hww : L2.wipe (L2.wipe σ vs) vs = L2.wipe σ vs := wipe_ext (wipe_length σ vs) fun j hj => wipe_out hj
            have hw : L2.wipe σ3 vs = L2.wipe σ vs := hw.trans hww
            refine ⟨hw, S', ρ3, G2, E3, ?_⟩
            -- what a turn comes to
            have back : ∀ ρ4 H4 G4, EnvOk B S' ρ4 σ3 H4 G4 → Le G2 G4 → EnvOk B S (wipeR ρ4 vs) (L2.wipe σ vs) H4 G4 ∧ H4 D = some (.lst acc) ∧ G4 D = none ∧ Loose (wipeR ρ4 vs) (L2.wipe σ vs) D ∧ Le G1 G4 ∧ DpAll B.K G4 acc accd := fun ρ4 H4 G4 E4 le4 => by
              obtain ⟨k1, k2⟩ := E4.reb_keep hDi nt gDi loi (Ei.nodct hDi)
              have lo4 := E4.reb_loose hDi loi (Ei.nodct hDi)
              have Eu := Ei.unreb E4
              have nr4 : ∀ i : Nat, i ∈ vs → ∀ l, ρ4[i]? ≠ some (some (.ref l)) := fun i hi l z => by
                obtain ⟨l0, h0⟩ := E4.noref z
                exact cli i hi _ h0
              have Ew := Eu.wipe nr4
              rw [hw] at Ew
              refine ⟨Ew, k1, k2, fun j l h z => ?_, lei.trans (le2.trans le4), DpAll.up (le2.trans le4) dpi⟩
              have z' := z
              rw [← hw] at z'
              obtain ⟨h1, h2⟩ := wipe_some z'
              have h' : Hd ρ4 j l := by
                rcases h with h | h
                · rw [wipeR_out h2] at h; exact .inl h
                · rw [wipeR_out h2] at h; exact .inr h
              exact lo4 j l h' h1
            dsimp only at gi
            cases ec : fc ρ3 with
            | no => rw [ec] at gi; cases gi
            | ex e ρ4 => rw [ec] at gi; cases gi
            | ok c ρ4 =>
              rw [ec] at gi
              intro H4 G4 E4 le4
              cases c with
              | bool b =>
                cases b with
                | false =>
                  refine ⟨false, rfl, ifF ?_⟩
                  obtain ⟨k1, k2, k3, k4, k5, k6⟩ := back ρ4 H4 G4 E4 le4
                  exact ⟨rfl, hlt, wipeR ρ4 vs, G4, acc, accd, rest, k1, k2, k3, k4, k5, k6, gi, ei, by omega, fun j hj => wipeR_clean hj⟩
                | true =>
                  refine ⟨true, rfl, ifT ⟨S', ρ4, G4, E4, ?_⟩⟩
                  dsimp only at gi
                  cases ee : fe ρ4 with
                  | no => rw [ee] at gi; cases gi
                  | ex e ρ5 => rw [ee] at gi; cases gi
                  | ok y ρ5 =>
                    rw [ee] at gi
                    intro H5 G5 E5 le5 v hv
                    dsimp only at gi
                    cases er : lcGo t vs fc fe (xs.drop (i + 1)) (wipeR ρ5 vs) with
                    | no => rw [er] at gi; cases gi
                    | ex e ρ6 => rw [er] at gi; cases gi
                    | ok zs ρ6 =>
                      rw [er] at gi
                      cases gi
                      obtain ⟨k1, k2, k3, k4, k5, k6⟩ := back ρ5 H5 G5 E5 (le4.trans le5)
                      have hz : acc.length < sizeLine := by omega
                      refine ⟨acc, k2, hz, rfl, hlt, wipeR ρ5 vs, G5, acc ++ [v], accd ++ [y], zs, k1.upl k2 k3 (S.wn D (E1.there D hD)) k4, upd_same, k3, k4, k5, k6.append (.cons hv .nil), er, by rw [← ei]; simp, by rw [List.length_append]; simp; omega, fun j hj => wipeR_clean hj⟩
              | _ => cases gi
        · have e : i = xs.length := by omega
          subst e
          refine .inl ⟨fstop, ?_⟩
          rw [List.drop_length] at gi
          unfold lcGo at gi
          cases gi
          rw [List.append_nil] at ei
          subst ei
          have Ef := E1.rest nh Ei lei cli
          refine P1 Hi Gi Ef lei D acc hDi gDi (S.wn D (E1.there D hD)) (fun j l h z => ?_) (by omega) dpi
          by_cases m : j ∈ vs
          · have hlt : j < ρ2.length := by
              rcases h with h | h
              · have := (List.getElem?_eq_some_iff.mp h).1; rw [restR_length] at this; exact this
              · have := (List.getElem?_eq_some_iff.mp h).1; rw [restR_length] at this; exact this
            have q := List.all_eq_true.mp nh j m
            rcases h with h | h
            · rw [restR_in hlt m] at h
              cases e : ρ1[j]? with
              | none => rw [e] at q; cases q
              | some x =>
                rw [e] at h q
                cases x with
                | none => cases h
                | some c => cases c with
                  | dat d => cases h
                  | own l => cases q
                  | ref l => cases q
                  | dct l => cases q
                  | raw l => cases q
                  | rel k l => cases q
            · rw [restR_in hlt m] at h
              cases e : ρ1[j]? with
              | none => rw [e] at q; cases q
              | some x =>
                rw [e] at h q
                cases x with
                | none => cases h
                | some c => cases c with
                  | dat d => cases h
                  | own l => cases q
                  | ref l => cases q
                  | dct l => cases q
                  | raw l => cases q
                  | rel k l => cases q
          · have h' : Hd ρ2 j l := by
              rcases h with h | h
              · rw [restR_out m] at h; exact .inl h
              · rw [restR_out m] at h; exact .inr h
            exact loi j l h' (by rw [wipe_out m]; exact z)
  · exact False.elim P1
end
end Rf

set_option maxRecDepth 100000
set_option maxHeartbeats 4000000
namespace Rf
open PySem PySem.Spec PyProof.Rows L2
/-! ### builtins -/
def rC (B : Bs) (g : List D → Option D) : List V → Hp → VK → Prop := fun vs H Q => ∃ S ρ σ G ds z, EnvOk B S ρ σ H G ∧ DpAll B.K G vs ds ∧ g ds = some z ∧ ∀ H' G', EnvOk B S ρ σ H' G' → Le G G' → ∀ u, Dp B.K G' u z → Q u H'
def sCall (g : List D → Option D) (fa : Rho → O (List D)) : Rho → O D := fun ρ => (fa ρ).bind fun ds ρ1 => lift (g ds) ρ1
section
variable {X : Cx} {B : Bs} {Wx : WX}
theorem tCB_of {g : List D → Option D} {fa : Rho → O (List D)} {σ : St} {H : Hp} {Q : VK} (h : tEv B Wx (sCall g fa) σ H Q) : tCB (rC B g) (tEs B Wx fa) σ H Q := by
  obtain ⟨S, ρ, G, E, P⟩ := h
  refine ⟨S, ρ, G, E, P.bind.imp fun ds ρ1 H1 G1 E1 le1 q1 vs hvs => ?_⟩
  cases e : g ds with
  | none => rw [e] at q1; exact False.elim q1
  | some z =>
    rw [e] at q1
    exact ⟨S, ρ1, σ, G1, ds, z, E1, hvs, e, fun H' G' E' le u hu => q1 H' G' E' le u hu⟩
theorem r_callB {id : String} {x : Str} {g : List D → Option D} {e : Expr} {es : List Expr} {p pos : Pos} {fa : Rho → O (List D)} (hc : CallR X (.builtin id) (rC B g)) (hg : Gl X x) (hm : X.mg x = none) (hv : bootBuiltins x = some (.builtin id)) (ha : PA X (e :: es) (tEs B Wx fa)) (hn : x ≠ "__name__") (hdb : (x == ("__debug__" : Str)) = false)
    (he : starEach (e :: es) X.env = (false, eval e X.env) :: starEach es X.env) (hpl : (backTo pos (starEach es X.env)).any (·.1) = false) : PE X (.Call (.Name x p) (e :: es) [] pos) (tEv B Wx (sCall g fa)) :=
  (pe_callB hc hg hm hv ha hn hdb he hpl).imp' fun σ H Q h => tCB_of h
theorem r_callTy {id : String} {x : Str} {g : List D → Option D} {e : Expr} {es : List Expr} {p pos : Pos} {fa : Rho → O (List D)} (hc : CallR X (.type id) (rC B g)) (hg : Gl X x) (hm : X.mg x = none) (hv : bootBuiltins x = some (.type id)) (ha : PA X (e :: es) (tEs B Wx fa)) (hn : x ≠ "__name__") (hdb : (x == ("__debug__" : Str)) = false)
    (he : starEach (e :: es) X.env = (false, eval e X.env) :: starEach es X.env) (hpl : (backTo pos (starEach es X.env)).any (·.1) = false) : PE X (.Call (.Name x p) (e :: es) [] pos) (tEv B Wx (sCall g fa)) :=
  (pe_callTy hc hg hm hv ha hn hdb he hpl).imp' fun σ H Q h => tCB_of h
theorem all1 {K : PySem.W.Frag} {G : Hp} {vs : List V} {d : D} (h : DpAll K G vs [d]) : ∃ v, vs = [v] ∧ Dp K G v d := by
  cases h with
  | cons a r => cases r; exact ⟨_, rfl, a⟩
theorem all2 {K : PySem.W.Frag} {G : Hp} {vs : List V} {d e : D} (h : DpAll K G vs [d, e]) : ∃ v w, vs = [v, w] ∧ Dp K G v d ∧ Dp K G w e := by
  cases h with
  | cons a r =>
    obtain ⟨w, rfl, b⟩ := all1 r
    exact ⟨_, _, rfl, a, b⟩
def dLen : List D → Option D
  | [.list xs] => some (.int xs.length)
  | [.tuple xs] => some (.int xs.length)
  | [.str z] => if z.length ≤ 16777216 then some (.int z.length) else none
  | _ => none
theorem c_len (hK : X.K = B.K) : CallR X (.builtin "len") (rC B dLen) := by
  intro pins s σ H vs us Q I r h
  obtain ⟨S, ρ, σ', G, ds, z, E, hd, e, q⟩ := h
  unfold dLen at e
  split at e
  · cases e
    obtain ⟨v, rfl, hv⟩ := all1 hd
    obtain ⟨a, xs, rfl, s1, a1⟩ := dlst hv
    refine call_len pins s σ H _ us Q I r ⟨_, xs.length, rfl, .inl ⟨xs, hK ▸ SqL.le E.sub s1, rfl⟩, ?_⟩
    rw [a1.length]; exact q H G E Le.refl _ (.int _)
  · cases e
    obtain ⟨v, rfl, hv⟩ := all1 hd
    obtain ⟨a, xs, rfl, s1, a1⟩ := dtup hv
    refine call_len pins s σ H _ us Q I r ⟨_, xs.length, rfl, .inr ⟨xs, hK ▸ SqT.le E.sub s1, rfl⟩, ?_⟩
    rw [a1.length]; exact q H G E Le.refl _ (.int _)
  · split at e
    · rename_i hz; cases e
      obtain ⟨v, rfl, hv⟩ := all1 hd
      cases dstr hv
      exact call_len pins s σ H _ us Q I r ⟨_, _, rfl, ⟨by rw [line_eq]; exact hz, rfl⟩, q H G E Le.refl _ (.int _)⟩
    · cases e
  · cases e
def dSum : List D → Option D
  | [.list xs] => (intsOf xs).map fun ns => .int ns.sum
  | _ => none
theorem c_sum (hK : X.K = B.K) (hc : X.calm = true) : CallR X (.builtin "sum") (rC B dSum) := by
  intro pins s σ H vs us Q I r h
  obtain ⟨S, ρ, σ', G, ds, z, E, hd, e, q⟩ := h
  unfold dSum at e
  split at e
  · obtain ⟨v, rfl, hv⟩ := all1 hd
    obtain ⟨a, xs, rfl, s1, a1⟩ := dlst hv
    rename_i ys
    cases e1 : intsOf ys with
    | none => rw [e1] at e; cases e
    | some ns =>
      rw [e1] at e; cases e
      rw [intsOf_eq e1] at a1
      rw [a1.ints] at s1
      exact cr_sum hc pins s σ H _ us Q I r ⟨a, ns, rfl, hK ▸ SqL.le E.sub s1, q H G E Le.refl _ (.int _)⟩
  · cases e
def dAbs : List D → Option D
  | [.int i] => some (.int (if i < 0 then -i else i))
  | _ => none
theorem c_abs : CallR X (.builtin "abs") (rC B dAbs) := by
  intro pins s σ H vs us Q I r h
  obtain ⟨S, ρ, σ', G, ds, z, E, hd, e, q⟩ := h
  unfold dAbs at e
  split at e
  · cases e
    obtain ⟨v, rfl, hv⟩ := all1 hd
    cases dint hv
    exact call_abs pins s σ H _ us Q I r ⟨_, rfl, q H G E Le.refl _ (.int _)⟩
  · cases e
def dMax : List D → Option D
  | [.int i, .int j] => some (.int (if j > i then j else i))
  | _ => none
def dMin : List D → Option D
  | [.int i, .int j] => some (.int (if j < i then j else i))
  | _ => none
theorem c_max (hc : X.calm = true) : CallR X (.builtin "max") (rC B dMax) := by
  intro pins s σ H vs us Q I r h
  obtain ⟨S, ρ, σ', G, ds, z, E, hd, e, q⟩ := h
  unfold dMax at e
  split at e
  · cases e
    obtain ⟨v, w, rfl, hv, hw⟩ := all2 hd
    cases dint hv; cases dint hw
    exact call_max2 hc pins s σ H _ us Q I r ⟨_, _, rfl, q H G E Le.refl _ (.int _)⟩
  · cases e
theorem c_min (hc : X.calm = true) : CallR X (.builtin "min") (rC B dMin) := by
  intro pins s σ H vs us Q I r h
  obtain ⟨S, ρ, σ', G, ds, z, E, hd, e, q⟩ := h
  unfold dMin at e
  split at e
  · cases e
    obtain ⟨v, w, rfl, hv, hw⟩ := all2 hd
    cases dint hv; cases dint hw
    exact call_min2 hc pins s σ H _ us Q I r ⟨_, _, rfl, q H G E Le.refl _ (.int _)⟩
  · cases e
def dInt : List D → Option D
  | [.int i] => some (.int i)
  | [.bool k] => some (.int (if k then 1 else 0))
  | _ => none
theorem c_int : CallR X (.type "int") (rC B dInt) := by
  intro pins s σ H vs us Q I r h
  obtain ⟨S, ρ, σ', G, ds, z, E, hd, e, q⟩ := h
  unfold dInt at e
  split at e
  · cases e
    obtain ⟨v, rfl, hv⟩ := all1 hd
    cases dint hv
    exact call_int1 pins s σ H _ us Q I r (.inl ⟨_, rfl, q H G E Le.refl _ (.int _)⟩)
  · cases e
    obtain ⟨v, rfl, hv⟩ := all1 hd
    cases dbl hv
    exact call_int1 pins s σ H _ us Q I r (.inr ⟨_, rfl, q H G E Le.refl _ (.int _)⟩)
  · cases e
def dBool : List D → Option D
  | [.int i] => some (.bool (i != 0))
  | [.bool k] => some (.bool k)
  | _ => none
theorem c_bool : CallR X (.type "bool") (rC B dBool) := by
  intro pins s σ H vs us Q I r h
  obtain ⟨S, ρ, σ', G, ds, z, E, hd, e, q⟩ := h
  unfold dBool at e
  split at e
  · cases e
    obtain ⟨v, rfl, hv⟩ := all1 hd
    cases dint hv
    exact call_bool1 pins s σ H _ us Q I r (.inl ⟨_, rfl, q H G E Le.refl _ (.bl _)⟩)
  · cases e
    obtain ⟨v, rfl, hv⟩ := all1 hd
    cases dbl hv
    exact call_bool1 pins s σ H _ us Q I r (.inr ⟨_, rfl, q H G E Le.refl _ (.bl _)⟩)
  · cases e
def dStr : List D → Option D
  | [.int i] => if i.natAbs.log2 < 1920 then some (.str (toString i)) else none
  | _ => none
theorem c_str : CallR X (.type "str") (rC B dStr) := by
  intro pins s σ H vs us Q I r h
  obtain ⟨S, ρ, σ', G, ds, z, E, hd, e, q⟩ := h
  unfold dStr at e
  split at e
  · split at e
    · rename_i hz; cases e
      obtain ⟨v, rfl, hv⟩ := all1 hd
      cases dint hv
      exact call_str_int pins s σ H _ us Q I r ⟨_, rfl, hz, q H G E Le.refl _ (.str _)⟩
    · cases e
  · cases e
def dTuple : List D → Option D
  | [.list xs] => some (.tuple xs)
  | [.tuple xs] => some (.tuple xs)
  | _ => none
theorem c_tuple (hK : X.K = B.K) : CallR X (.type "tuple") (rC B dTuple) := by
  intro pins s σ H vs us Q I r h
  obtain ⟨S, ρ, σ', G, ds, z, E, hd, e, q⟩ := h
  unfold dTuple at e
  split at e
  · cases e
    obtain ⟨v, rfl, hv⟩ := all1 hd
    obtain ⟨a, xs, rfl, s1, a1⟩ := dlst hv
    refine call_tuple_of pins s σ H _ us Q I r ⟨a, xs, rfl, .inl ⟨hK ▸ SqL.le E.sub s1, fun p hp => ?_⟩⟩
    exact q _ (upd G p (.tup xs)) (E.new (o := .tup xs) hp (fun _ => HO.noConfusion) (szl E s1)) (Le.upd (E.gnone hp)) _ (.tup (SqT.of upd_same) (DpAll.up (Le.upd (E.gnone hp)) a1))
  · cases e
    obtain ⟨v, rfl, hv⟩ := all1 hd
    have hv' := hv
    obtain ⟨a, xs, rfl, s1, a1⟩ := dtup hv
    exact call_tuple_of pins s σ H _ us Q I r ⟨a, xs, rfl, .inr ⟨hK ▸ SqT.le E.sub s1, q H G E Le.refl _ hv'⟩⟩
  · cases e
/-- list(x): a new list -/
def dListOf : List D → Option (List D)
  | [.list xs] => some xs
  | [.tuple xs] => some xs
  | _ => none
def sListOf (fa : Rho → O (List D)) : Rho → O (List D) := fun ρ => (fa ρ).bind fun ds ρ1 => lift (dListOf ds) ρ1
theorem r_listOf {e : Expr} {p pos : Pos} {fa : Rho → O (List D)} (hK : X.K = B.K) (hg : Gl X "list") (hm : X.mg "list" = none) (ha : PA X [e] (tEs B Wx fa)) (he : starEach [e] X.env = (false, eval e X.env) :: starEach [] X.env) : PE X (.Call (.Name "list" p) [e] [] pos) (tEo B Wx (sListOf fa)) :=
  (pe_callTy call_list_of hg hm (by decide +kernel) ha (by decide) (by decide) he (by rfl)).imp' fun σ H Q ⟨S, ρ, G, E, P⟩ => by
    refine ⟨S, ρ, G, E, P.bind.imp fun ds ρ1 H1 G1 E1 le1 q1 vs hvs => ?_⟩
    unfold dListOf at q1
    split at q1
    · obtain ⟨v, rfl, hv⟩ := all1 hvs
      obtain ⟨a, xs, rfl, s1, a1⟩ := dlst hv
      refine ⟨a, xs, rfl, .inl (hK ▸ SqL.le E1.sub s1), fun p hp => ?_⟩
      obtain ⟨e1, e2, e3, e4, e5⟩ := E1.newl (vs := xs) hp
      exact q1 _ G1 e1 Le.refl p xs e2 e3 e4 e5 (szl E1 s1) a1
    · obtain ⟨v, rfl, hv⟩ := all1 hvs
      obtain ⟨a, xs, rfl, s1, a1⟩ := dtup hv
      refine ⟨a, xs, rfl, .inr (hK ▸ SqT.le E1.sub s1), fun p hp => ?_⟩
      obtain ⟨e1, e2, e3, e4, e5⟩ := E1.newl (vs := xs) hp
      exact q1 _ G1 e1 Le.refl p xs e2 e3 e4 e5 (szt E1 s1) a1
    · exact False.elim q1
/-- [x, ..] * n -/
def sRep (fa : Rho → O (List D)) (fb : Rho → O D) : Rho → O (List D) := fun ρ => (fa ρ).bind fun l ρ1 => if l.length ≤ 1000 then (fb ρ1).bind fun y ρ2 => match y with
  | .int k => if -(2 ^ 63) ≤ k ∧ k < 2 ^ 63 ∧ l.length * k.toNat ≤ 16777216 then .ok (List.replicate k.toNat l).flatten ρ2 else .no
  | _ => .no
  else .no
theorem r_rep {es : List Expr} {b : Expr} {p pos : Pos} {fa : Rho → O (List D)} {fb : Rho → O D} (ha : PA X es (tEs B Wx fa)) (hb : PE X b (tEv B Wx fb)) : PE X (.BinOp (.List es p) .Mult b pos) (tEo B Wx (sRep fa fb)) :=
  (pe_op op_rep (pe_lst ha) hb).imp' fun σ H Q ⟨S, ρ, G, E, P⟩ => by
    refine ⟨S, ρ, G, E, P.bind.imp fun l ρ1 H1 G1 E1 le1 q vs hvs => ?_⟩
    split at q
    · rename_i hl
      have hz : vs.length ≤ sizeLine := by rw [hvs.length]; exact le_line hl
      refine ⟨hz, fun p hp => ?_⟩
      have E2 := E1.new (o := .lst vs) hp (fun _ => HO.noConfusion) hz
      have le2 : Le G1 (upd G1 p (.lst vs)) := Le.upd (E1.gnone hp)
      refine ⟨S, ρ1, _, E2, (Post.le q.bind le2).imp fun y ρ2 H3 G3 E3 le3 q3 w hw => ?_⟩
      split at q3
      · rename_i k
        split at q3
        · rename_i hk
          cases dint hw
          have hp3 : H3 p = some (.lst vs) := E3.sub p _ (le3 p _ upd_same)
          refine ⟨p, k, vs, rfl, rfl, hp3, hk.1, hk.2.1, by rw [hvs.length, line_eq]; exact hk.2.2, fun r hr => ?_⟩
          obtain ⟨e1, e2, e3, e4, e5⟩ := E3.newl (vs := (List.replicate k.toNat vs).flatten) hr
          exact q3 _ G3 e1 Le.refl r _ e2 e3 e4 e5 (by rw [PyProof.Rows.lm_len_rep_flat, line_eq, hvs.length, Nat.mul_comm]; exact hk.2.2) ((DpAll.up (le2.trans le3) hvs).rep _)
        · exact False.elim q3
      · exact False.elim q3
    · exact False.elim q
/-- isinstance(x, T), T a built-in type -/
def tyName : D → String
  | .none => "NoneType" | .bool _ => "bool" | .int _ => "int" | .str _ => "str" | .list _ => "list" | .tuple _ => "tuple" | .dict _ => "dict"
def isTy (T : String) (d : D) : Bool := tyName d == T || (T == "int" && tyName d == "bool")
def tyKnown (T : String) : Bool := ["bool", "int", "str", "list", "tuple"].contains T
theorem kit_is (K : PySem.W.Frag) {T : String} (h : tyKnown T = true) (d : D) : PySem.W.kitOne K (.type (tyName d)) (.type T) = some (isTy T d) := by
  have hT : T = "bool" ∨ T = "int" ∨ T = "str" ∨ T = "list" ∨ T = "tuple" := by
    unfold tyKnown at h
    simpa using h
  refine kit_ty ?_
  have key : ∀ n ∈ ["NoneType", "bool", "int", "str", "list", "tuple", "dict"], ∀ T ∈ ["bool", "int", "str", "list", "tuple"], kitB n T = some (n == T || (T == "int" && n == "bool")) := by decide +kernel
  unfold isTy
  refine key (tyName d) ?_ T ?_
  · cases d <;> simp [tyName]
  · rcases hT with h | h | h | h | h <;> simp [h]
theorem tyx_of {K : PySem.W.Frag} {H : Hp} {v : V} {d : D} (h : Dp K H v d) : TyX K H v (.type (tyName d)) := by
  cases h with
  | non => exact .base .non
  | bl b => exact .base (.bl b)
  | int i => exact .base (.int i)
  | str x => exact .base (.str x)
  | lst s a =>
    rcases s with (h | ⟨o, h⟩) | ⟨o, its, n, h1, h2, _⟩
    · exact .base (.lst h)
    · exact .base (.frz h)
    · exact .kList h1 h2
  | tup s a =>
    rcases s with (h | ⟨o, h⟩) | ⟨o, its, n, h1, h2, _⟩
    · exact .base (.tup h)
    · exact .fTuple h
    · exact .kTuple h1 h2
def sIsi (fa : Rho → O D) (T : String) : Rho → O D := fun ρ => (fa ρ).bind fun d ρ1 => .ok (.bool (isTy T d)) ρ1
theorem r_isi {e : Expr} {T : String} {t : Str} {p q pos : Pos} {fa : Rho → O D} (hK : X.K = B.K) (hT : tyKnown T = true) (hg : Gl X "isinstance") (hm : X.mg "isinstance" = none) (hgt : Gl X t) (hmt : X.mg t = none) (hvt : bootBuiltins t = some (.type T)) (hnt : t ≠ "__name__") (hdt : (t == ("__debug__" : Str)) = false)
    (he : PE X e (tEv B Wx fa)) (hs : starEach [e, .Name t q] X.env = (false, eval e X.env) :: starEach [.Name t q] X.env) : PE X (.Call (.Name "isinstance" p) [e, .Name t q] [] pos) (tEv B Wx (sIsi fa T)) :=
  (pe_callB call_isi hg hm (by decide +kernel) (pa_cons he (pa_cons (pe_bltn (v := .ty T) hgt hmt hvt rfl hnt hdt) pa_nil (by rfl)) hs) (by decide) (by decide) hs (by rfl)).imp' fun σ H Q ⟨S, ρ, G, E, P⟩ => by
    refine ⟨S, ρ, G, E, P.bind.imp fun d ρ1 H1 G1 E1 le1 q1 v hv => ?_⟩
    exact ⟨v, .ty T, _, _, isTy T d, rfl, .ty T, hK ▸ tyx_of (Dp.up E1.sub hv), hK ▸ kit_is B.K hT d, q1 H1 G1 E1 Le.refl _ (.bl _)⟩
end
end Rf

set_option maxRecDepth 100000
set_option maxHeartbeats 4000000
namespace Rf
open PySem PySem.Spec PyProof.Rows L2
/-! ### defs of the program: promises and calls -/
def argsR (cs : List C) : Rho := cs.map some
def argsS (vs : List V) : St := vs.map some
def spOf (B : Bs) (f : FSem) : Sp := fun vs H Q E => ∃ G cs, (∀ (i : Nat) (l : List D), cs[i]? ≠ some (C.own l)) ∧ (∀ (i : Nat) (ks : List (List Int)), cs[i]? ≠ some (C.dct ks)) ∧ EnvOk B (Rf.reb (argsR cs) (argsS vs) H G) (argsR cs) (argsS vs) H G ∧ match f cs with
  | .ret d cs' => ∀ v H' G', EnvOk B (Rf.reb (argsR cs) (argsS vs) H G) (argsR cs') (argsS vs) H' G' → Dp B.K G' v d → Q v H'
  | .retO l cs' => ∀ p us H' G', EnvOk B (Rf.reb (argsR cs) (argsS vs) H G) (argsR cs') (argsS vs) H' G' → H' p = some (.lst us) → G' p = none → H p = none → us.length ≤ sizeLine → DpAll B.K G' us l → Q (.ref p) H'
  | .retK ks cs' => ∀ a H' G', EnvOk B (Rf.reb (argsR cs) (argsS vs) H G) (argsR cs') (argsS vs) H' G' → H' a = some (dkOf ks) → G' a = none → H a = none → Q (.ref a) H'
  | .retV k d cs' => ∀ v H' G', EnvOk B (Rf.reb (argsR cs) (argsS vs) H G) (argsR cs') (argsS vs) H' G' → B.RV k d G' v → Q v H'
  | .exc e cs' => ∀ cls a H' G', EnvOk B (Rf.reb (argsR cs) (argsS vs) H G) (argsR cs') (argsS vs) H' G' → B.EX e cls a H' → E cls a H'
  | .no => False
/-- a def of the program keeps what f says -/
structure FnGood (B : Bs) (P : Program) (w : World) (mg : Str → Option Value) (base : Heap) (lv : Nat) (x : Str) (n : Nat) (f : FSem) : Prop where
  ex : ∃ fa fd ps, FnOk P w B.K mg base (L2N.CX P w) lv fa fd ps (spOf B f) ∧ mg x = some (.ref fa) ∧ PySem.W.keepIn B.K (.ref fa) = true ∧ Binds B.K fd ps [] ∧ ps.length = n
theorem FnGood.mono {B : Bs} {P : Program} {w : World} {mg : Str → Option Value} {base : Heap} {j k : Nat} {x : Str} {n : Nat} {f : FSem} (F : FnGood B P w mg base j x n f) (h : j ≤ k) : FnGood B P w mg base k x n f :=
  let ⟨fa, fd, ps, h1, h2, h3, h4, h5⟩ := F.ex
  ⟨fa, fd, ps, h1.mono h, h2, h3, h4, h5⟩
section
variable {X : Cx} {B : Bs} {Wx : WX}
/-- into a def -/
theorem EnvOk.enter {S : Sit} {ρ : Rho} {σ : St} {H G : Hp} (E : EnvOk B S ρ σ H G) {cs : List C} {vs : List V} (hl : cs.length = vs.length) (hd : ∀ (i : Nat) d, cs[i]? = some (C.dat d) → ∃ v, vs[i]? = some v ∧ Dp B.K G v d)
    (ho : ∀ (i : Nat) l, cs[i]? ≠ some (C.own l)) (hk : ∀ (i : Nat) ks, cs[i]? ≠ some (C.dct ks)) (hw : ∀ (i : Nat) v, cs[i]? = some (C.raw v) → vs[i]? = some v) (hq : ∀ (i k : Nat) d, cs[i]? = some (C.rel k d) → ∃ v, vs[i]? = some v ∧ B.RV k d G v) (hr : ∀ (i : Nat) l, cs[i]? = some (C.ref l) → ∃ j a, vs[i]? = some (.ref a) ∧ Hd ρ j l ∧ σ[j]? = some (some (.ref a))) (one : ∀ (i j : Nat) l m, cs[i]? = some (C.ref l) → cs[j]? = some (C.ref m) → i = j) :
    EnvOk B (Rf.reb (argsR cs) (argsS vs) H G) (argsR cs) (argsS vs) H G := by
  have rget : ∀ (i : Nat) c, (argsR cs)[i]? = some (some c) → cs[i]? = some c := fun i c h => by
    unfold argsR at h
    rw [List.getElem?_map] at h
    cases e : cs[i]? with
    | none => rw [e] at h; cases h
    | some c' => rw [e] at h; cases h; rfl
  have sget : ∀ (i : Nat) v, vs[i]? = some v → (argsS vs)[i]? = some (some v) := fun i v h => by
    unfold argsS
    rw [List.getElem?_map, h]; rfl
  have hh : ∀ (i : Nat) l, Hd (argsR cs) i l → cs[i]? = some (C.ref l) := fun i l h => by
    rcases h with h | h
    · exact absurd (rget i _ h) (ho i l)
    · exact rget i _ h
  exact {
    sub := E.sub
    nt := E.nt
    sz := E.sz
    j := E.j
    keep := fun b o e _ _ => e
    there := fun b e => e
    gsub := fun b o e => e
    gnew := fun b o e => .inl e
    len := by unfold argsR argsS; rw [List.length_map, List.length_map]; exact hl
    dat := fun i d h => let ⟨v, h1, h2⟩ := hd i d (rget i _ h); ⟨v, sget i v h1, h2⟩
    dct := fun i ks h => absurd (rget i _ h) (hk i ks)
    raw := fun i v h => sget i v (hw i v (rget i _ h))
    rel := fun i k d h => let ⟨v, h1, h2⟩ := hq i k d (rget i _ h); ⟨v, sget i v h1, h2⟩
    dnq := fun i j ks ks' h _ => absurd (rget i _ h) (hk i ks)
    held := fun i l h => by
      obtain ⟨j, a, h1, h2, h3⟩ := hr i l (hh i l h)
      obtain ⟨a', us, k1, k2, k3, k4, k5, k6⟩ := E.held j l h2
      rw [h3] at k1; cases k1
      exact ⟨a, us, sget i _ h1, k2, k3, k4, .inr (.inl ⟨i, l, h, sget i _ h1⟩), k6⟩
    ref := fun i l h => ⟨rfl, l, h⟩
    sep := fun i j l m hij h1 h2 => absurd (one i j l m (hh i l h1) (hh j m h2)) hij
    isref := fun i l h => ⟨l, h⟩ }
theorem argsR_ref {cs : List C} {i : Nat} {c : C} (h : (argsR cs)[i]? = some (some c)) : cs[i]? = some c := by
  unfold argsR at h
  rw [List.getElem?_map] at h
  cases e : cs[i]? with
  | none => rw [e] at h; cases h
  | some c' => rw [e] at h; cases h; rfl
theorem argsS_get {vs : List V} {i : Nat} {v : V} (h : (argsS vs)[i]? = some (some v)) : vs[i]? = some v := by
  unfold argsS at h
  rw [List.getElem?_map] at h
  cases e : vs[i]? with
  | none => rw [e] at h; cases h
  | some c' => rw [e] at h; cases h; rfl
/-- behind a call with data alone -/
theorem EnvOk.backD {S : Sit} {ρ : Rho} {σ : St} {H G H' G' : Hp} (E : EnvOk B S ρ σ H G) {cs cs' : List C} {vs : List V} (nr : ∀ (i : Nat) l, cs[i]? ≠ some (C.ref l)) (no : ∀ (i : Nat) l, cs[i]? ≠ some (C.own l)) (nk : ∀ (i : Nat) ks, cs[i]? ≠ some (C.dct ks))
    (E' : EnvOk B (Rf.reb (argsR cs) (argsS vs) H G) (argsR cs') (argsS vs) H' G') : EnvOk B S ρ σ H' G' ∧ Le G G' := by
  have nw : ∀ b, (Rf.reb (argsR cs) (argsS vs) H G).W b → H b = none := fun b h => by
    rcases h with h | ⟨i, l, h, _⟩ | ⟨i, ks, h, _⟩
    · exact h
    · rcases h with h | h
      · exact absurd (argsR_ref h) (no i l)
      · exact absurd (argsR_ref h) (nr i l)
    · exact absurd (argsR_ref h) (nk i ks)
  refine ⟨E.grow (fun b o e t => E'.keep b o e (fun z => by rw [nw b z] at e; cases e) t) (fun b e => E'.there b e) (fun b o e => E'.gsub b o e) (fun b o e => ?_) E'.sub E'.nt E'.sz E'.j, fun b o e => E'.gsub b o e⟩
  rcases E'.gnew b o e with h | h
  · exact .inl h
  · exact .inr (nw b h)
/-- the list of a slot is another one now -/
def setL (ρ : Rho) (i : Nat) (l : List D) : Rho := match ρ[i]? with
  | some (some (.own _)) => ρ.set i (some (.own l))
  | some (some (.ref _)) => ρ.set i (some (.ref l))
  | _ => ρ
def heldAt (ρ : Rho) (i : Nat) : Option (List D) := match ρ[i]? with
  | some (some (.own l)) => some l
  | some (some (.ref l)) => some l
  | _ => none
theorem heldAt_hd {ρ : Rho} {i : Nat} {l : List D} (h : heldAt ρ i = some l) : Hd ρ i l := by
  unfold heldAt at h
  split at h
  · rename_i m e; cases h; exact .inl e
  · rename_i m e; cases h; exact .inr e
  · cases h
theorem setL_other {ρ : Rho} {i j : Nat} {l : List D} (h : i ≠ j) : (setL ρ i l)[j]? = ρ[j]? := by
  unfold setL
  split
  · exact List.getElem?_set_ne h
  · exact List.getElem?_set_ne h
  · rfl
theorem setL_self {ρ : Rho} {i : Nat} {l l0 : List D} (h : Hd ρ i l0) : (ρ[i]? = some (some (.own l0)) ∧ (setL ρ i l)[i]? = some (some (.own l))) ∨ (ρ[i]? = some (some (.ref l0)) ∧ (setL ρ i l)[i]? = some (some (.ref l))) := by
  have hl : i < ρ.length := by
    rcases h with h | h
    · exact (List.getElem?_eq_some_iff.mp h).1
    · exact (List.getElem?_eq_some_iff.mp h).1
  unfold setL
  rcases h with h | h
  · rw [h]; exact .inl ⟨rfl, List.getElem?_set_self hl⟩
  · rw [h]; exact .inr ⟨rfl, List.getElem?_set_self hl⟩
theorem setL_length {ρ : Rho} {i : Nat} {l : List D} : (setL ρ i l).length = ρ.length := by
  unfold setL
  split
  · exact List.length_set ..
  · exact List.length_set ..
  · rfl
/-- the environment behind a change of the list at a, that slot i holds -/
theorem EnvOk.relist {S : Sit} {ρ : Rho} {σ : St} {H G H' G' : Hp} (E : EnvOk B S ρ σ H G) {i : Nat} {l l' : List D} {a : Addr} {vs' : List V} (h : Hd ρ i l) (ha : σ[i]? = some (some (.ref a)))
    (k : ∀ b o, H b = some o → b ≠ a → (∀ ps, o ≠ .tbl ps) → H' b = some o) (th : ∀ b, H' b = none → H b = none) (gs : Le G G') (gn : ∀ b o, G' b = some o → G b = some o ∨ H b = none) (su : ∀ b o, G' b = some o → H' b = some o)
    (nt : ∀ b ps, G' b ≠ some (.tbl ps)) (sz : ∀ b o, G' b = some o → szO o) (j : B.J H') (hv : H' a = some (.lst vs')) (hz : vs'.length ≤ sizeLine) (hd : DpAll B.K G' vs' l') : EnvOk B S (setL ρ i l') σ H' G' := by
  obtain ⟨a', us, k1, k2, k3, k4, k5, k6⟩ := E.held i l h
  rw [ha] at k1; cases k1
  have ga : G' a = none := by
    cases q : G' a with
    | none => rfl
    | some o =>
      rcases gn a o q with z | z
      · rw [k3] at z; cases z
      · rw [k2] at z; cases z
  have back : ∀ {x : Nat} {m : List D}, Hd (setL ρ i l') x m → (x = i ∧ m = l') ∨ (x ≠ i ∧ Hd ρ x m) := fun {x m} hx => by
    by_cases e : i = x
    · subst e
      refine .inl ⟨rfl, ?_⟩
      rcases setL_self (l := l') h with ⟨_, q⟩ | ⟨_, q⟩
      · rcases hx with hx | hx
        · rw [q] at hx; cases hx; rfl
        · rw [q] at hx; cases hx
      · rcases hx with hx | hx
        · rw [q] at hx; cases hx
        · rw [q] at hx; cases hx; rfl
    · refine .inr ⟨fun z => e z.symm, ?_⟩
      rcases hx with hx | hx
      · rw [setL_other e] at hx; exact .inl hx
      · rw [setL_other e] at hx; exact .inr hx
  exact {
    sub := su
    nt := nt
    sz := sz
    j := j
    keep := fun b o e n t => k b o (E.keep b o e n t) (fun z => n (by rw [z]; exact k5)) t
    there := fun b e => E.there b (th b e)
    gsub := fun b o e => gs b o (E.gsub b o e)
    gnew := fun b o e => by
      rcases gn b o e with z | z
      · exact E.gnew b o z
      · exact .inr (S.wn b (E.there b z))
    len := by rw [setL_length]; exact E.len
    dat := fun x d hx => by
      have e : i ≠ x := fun e => by
        subst e
        rcases setL_self (l := l') h with ⟨_, q⟩ | ⟨_, q⟩
        · rw [q] at hx; cases hx
        · rw [q] at hx; cases hx
      rw [setL_other e] at hx
      obtain ⟨v, h1, h2⟩ := E.dat x d hx
      exact ⟨v, h1, Dp.up gs h2⟩
    dct := fun x ks hx => by
      have e : i ≠ x := fun e => by
        subst e
        rcases setL_self (l := l') h with ⟨_, q⟩ | ⟨_, q⟩
        · rw [q] at hx; cases hx
        · rw [q] at hx; cases hx
      rw [setL_other e] at hx
      obtain ⟨c, h1, h2, h3, h4⟩ := E.dct x ks hx
      have nca : c ≠ a := fun z => by
        rw [z, k2] at h2
        exact dk_lst _ (Option.some.inj h2).symm
      refine ⟨c, h1, k c _ h2 nca dk_tbl, ?_, h4⟩
      cases q : G' c with
      | none => rfl
      | some o =>
        rcases gn c o q with z | z
        · rw [h3] at z; cases z
        · rw [h2] at z; cases z
    raw := fun x v hx => by
      have e : i ≠ x := fun e => by
        subst e
        rcases setL_self (l := l') h with ⟨_, q⟩ | ⟨_, q⟩
        · rw [q] at hx; cases hx
        · rw [q] at hx; cases hx
      rw [setL_other e] at hx
      exact E.raw x v hx
    rel := fun x k d hx => by
      have e : i ≠ x := fun e => by
        subst e
        rcases setL_self (l := l') h with ⟨_, q⟩ | ⟨_, q⟩
        · rw [q] at hx; cases hx
        · rw [q] at hx; cases hx
      rw [setL_other e] at hx
      obtain ⟨v, k1, k2⟩ := E.rel x k d hx
      exact ⟨v, k1, B.rs gs k2⟩
    dnq := fun x y ks ks' h1 h2 => by
      have ex : ∀ {x : Nat} {ks : List (List Int)}, (setL ρ i l')[x]? = some (some (C.dct ks)) → ρ[x]? = some (some (C.dct ks)) := fun {x ks} hx => by
        have e : i ≠ x := fun e => by
          subst e
          rcases setL_self (l := l') h with ⟨_, q⟩ | ⟨_, q⟩
          · rw [q] at hx; cases hx
          · rw [q] at hx; cases hx
        rw [setL_other e] at hx
        exact hx
      exact E.dnq x y ks ks' (ex h1) (ex h2)
    held := fun x m hx => by
      rcases back hx with ⟨rfl, rfl⟩ | ⟨ne, hx⟩
      · exact ⟨a, vs', ha, hv, ga, hd, k5, hz⟩
      · obtain ⟨c, ws, m1, m2, m3, m4, m5, m6⟩ := E.held x m hx
        have nca : c ≠ a := fun z => by
          subst z
          exact E.sep x i m l ne hx h (by rw [m1, ha])
        refine ⟨c, ws, m1, k c _ m2 nca (fun ps z => by cases z), ?_, DpAll.up gs m4, m5, m6⟩
        cases q : G' c with
        | none => rfl
        | some o =>
          rcases gn c o q with z | z
          · rw [m3] at z; cases z
          · rw [m2] at z; cases z
    ref := fun x m hx => by
      by_cases e : i = x
      · subst e
        rcases setL_self (l := l') h with ⟨_, q⟩ | ⟨q0, _⟩
        · rw [q] at hx; cases hx
        · exact E.ref i l q0
      · rw [setL_other e] at hx; exact E.ref x m hx
    sep := fun x y m n hxy h1 h2 => by
      rcases back h1 with ⟨ex, _⟩ | ⟨n1, h1'⟩
      · rcases back h2 with ⟨ey, _⟩ | ⟨n2, h2'⟩
        · exact absurd (ex.trans ey.symm) hxy
        · exact E.sep x y l n hxy (ex ▸ h) h2'
      · rcases back h2 with ⟨ey, _⟩ | ⟨n2, h2'⟩
        · exact E.sep x y m l hxy h1' (ey ▸ h)
        · exact E.sep x y m n hxy h1' h2'
    isref := fun x m hx => by
      obtain ⟨m', h'⟩ := E.isref x m hx
      by_cases e : i = x
      · subst e
        rcases setL_self (l := l') h with ⟨q, _⟩ | ⟨_, q⟩
        · rw [q] at h'; cases h'
        · exact ⟨l', q⟩
      · exact ⟨m', by rw [setL_other e]; exact h'⟩ }
/-- behind a call whose first argument was lent -/
theorem EnvOk.backR {S : Sit} {ρ : Rho} {σ : St} {H G H' G' : Hp} (E : EnvOk B S ρ σ H G) {i : Nat} {l l' : List D} {a : Addr} {ds : List D} {cs' : List C} {vs : List V} (h : Hd ρ i l) (ha : σ[i]? = some (some (.ref a)))
    (E' : EnvOk B (Rf.reb (argsR (.ref l :: ds.map .dat)) (argsS (.ref a :: vs)) H G) (argsR (.ref l' :: cs')) (argsS (.ref a :: vs)) H' G') : EnvOk B S (setL ρ i l') σ H' G' ∧ Le G G' := by
  obtain ⟨a', us, k1, k2, k3, k4, k5, k6⟩ := E.held i l h
  rw [ha] at k1; cases k1
  have wc : ∀ b, (Rf.reb (argsR (.ref l :: ds.map .dat)) (argsS (.ref a :: vs)) H G).W b → H b = none ∨ b = a := fun b hb => by
    rcases hb with hb | ⟨x, m, hb, hs⟩ | ⟨x, ks, hb, _⟩
    · exact .inl hb
    rotate_left
    · exfalso
      have hb := argsR_ref hb
      cases x with
      | zero => cases hb
      | succ x =>
        rw [List.getElem?_cons_succ, List.getElem?_map] at hb
        cases e : ds[x]? with
        | none => rw [e] at hb; cases hb
        | some d => rw [e] at hb; cases hb
    · refine .inr ?_
      cases x with
      | zero =>
        have : (argsS (.ref a :: vs))[0]? = some (some (V.ref a)) := rfl
        rw [this] at hs; cases hs; rfl
      | succ x =>
        have q : ∀ c, (C.ref l :: ds.map C.dat)[x + 1]? = some c → ∃ d, c = .dat d := fun c hc => by
          rw [List.getElem?_cons_succ, List.getElem?_map] at hc
          cases e : ds[x]? with
          | none => rw [e] at hc; cases hc
          | some d => rw [e] at hc; cases hc; exact ⟨d, rfl⟩
        rcases hb with hb | hb
        · obtain ⟨d, z⟩ := q _ (argsR_ref hb); cases z
        · obtain ⟨d, z⟩ := q _ (argsR_ref hb); cases z
  obtain ⟨a2, ws, m1, m2, m3, m4, m5, m6⟩ := E'.held 0 l' (.inr rfl)
  have e2 : (argsS (.ref a :: vs))[0]? = some (some (V.ref a)) := rfl
  rw [e2] at m1; cases m1
  refine ⟨E.relist h ha (fun b o e n t => E'.keep b o e (fun z => ?_) t) (fun b e => E'.there b e) (fun b o e => E'.gsub b o e) (fun b o e => ?_) E'.sub E'.nt E'.sz E'.j m2 m6 m4, fun b o e => E'.gsub b o e⟩
  · rcases wc b z with z | z
    · rw [z] at e; cases e
    · exact n z
  · rcases E'.gnew b o e with z | z
    · exact .inl z
    · rcases wc b z with z | z
      · exact .inr z
      · subst z
        rw [m3] at e; cases e

def sCallD (f : FSem) (fa : Rho → O (List D)) : Rho → O D := fun ρ => (fa ρ).bind fun ds ρ1 => match f (ds.map .dat) with
  | .ret d _ => .ok d ρ1
  | .retO l _ => .ok (.list l) ρ1
  | .retK _ _ => .no
  | .retV _ _ _ => .no
  | .exc e _ => .ex e ρ1
  | .no => .no
theorem datsW {ds : List D} : ∀ (i : Nat) v, (ds.map C.dat)[i]? ≠ some (C.raw v) := fun i ks h => by
  rw [List.getElem?_map] at h
  cases e : ds[i]? with
  | none => rw [e] at h; cases h
  | some d => rw [e] at h; cases h
theorem datsQ {ds : List D} : ∀ (i k : Nat) d, (ds.map C.dat)[i]? ≠ some (C.rel k d) := fun i k d' h => by
  rw [List.getElem?_map] at h
  cases e : ds[i]? with
  | none => rw [e] at h; cases h
  | some d => rw [e] at h; cases h
theorem datsK {ds : List D} : ∀ (i : Nat) ks, (ds.map C.dat)[i]? ≠ some (C.dct ks) := fun i ks h => by
  rw [List.getElem?_map] at h
  cases e : ds[i]? with
  | none => rw [e] at h; cases h
  | some d => rw [e] at h; cases h
theorem datsNo {ds : List D} : (∀ (i : Nat) l, (ds.map C.dat)[i]? ≠ some (C.ref l)) ∧ ∀ (i : Nat) l, (ds.map C.dat)[i]? ≠ some (C.own l) := by
  have q : ∀ (i : Nat) c, (ds.map C.dat)[i]? = some c → ∃ d, c = .dat d := fun i c hc => by
    rw [List.getElem?_map] at hc
    cases e : ds[i]? with
    | none => rw [e] at hc; cases hc
    | some d => rw [e] at hc; cases hc; exact ⟨d, rfl⟩
  exact ⟨fun i l h => (let ⟨d, z⟩ := q i _ h; (nomatch z)), fun i l h => (let ⟨d, z⟩ := q i _ h; (nomatch z))⟩
theorem dats_get {ds : List D} {i : Nat} {d : D} (h : (ds.map C.dat)[i]? = some (C.dat d)) : ds[i]? = some d := by
  rw [List.getElem?_map] at h
  cases e : ds[i]? with
  | none => rw [e] at h; cases h
  | some d => rw [e] at h; cases h; rfl
theorem enterD {S : Sit} {ρ : Rho} {σ : St} {H G : Hp} (E : EnvOk B S ρ σ H G) {ds : List D} {vs : List V} (h : DpAll B.K G vs ds) : EnvOk B (Rf.reb (argsR (ds.map .dat)) (argsS vs) H G) (argsR (ds.map .dat)) (argsS vs) H G :=
  E.enter (by rw [List.length_map]; exact h.length.symm) (fun i d e => h.get (dats_get e)) datsNo.2 datsK (fun i v e => absurd e (datsW i v)) (fun i k d e => absurd e (datsQ i k d)) (fun i l e => absurd e (datsNo.1 i l)) fun i j l m e => absurd e (datsNo.1 i l)
theorem r_callD {lv n : Nat} {x : Str} {f : FSem} {e : Expr} {es : List Expr} {p pos : Pos} {fa : Rho → O (List D)} (hK : X.K = B.K) (F : FnGood B X.prog X.w X.mg X.base lv x n f) (hr : Room lv X.A) (hg : Gl X x) (tk : L2N.Takes X Wx) (ha : PA X (e :: es) (tEs B Wx fa)) (hdb : (x == ("__debug__" : Str)) = false)
    (he : starEach (e :: es) X.env = (false, eval e X.env) :: starEach es X.env) (hpl : (backTo pos (starEach es X.env)).any (·.1) = false) : PE X (.Call (.Name x p) (e :: es) [] pos) (tEv B Wx (sCallD f fa)) :=
  pe_late fun σ H Q ⟨S, ρ, G, E, P⟩ => by
    obtain ⟨ad, fd, ps, h1, h2, h3, h4, h5⟩ := F.ex
    rw [← hK] at h1 h3 h4
    have P1 := P.bind
    cases q : fa ρ with
    | no => rw [q] at P1; exact False.elim P1
    | ex e' ρ1 =>
      rw [q] at P1
      exact ⟨_, pe_callS h1 hr hg h2 h3 h4 (fun σ => L2N.passAt tk σ) ha hdb he hpl, ⟨S, ρ, G, E, by rw [q]; exact P1⟩⟩
    | ok ds ρ1 =>
      rw [q] at P1
      refine ⟨_, pe_callS h1 hr hg h2 h3 h4 (fun σ => L2N.passAt tk σ) ha hdb he hpl, ⟨S, ρ, G, E, ?_⟩⟩
      rw [q]
      intro H1 G1 E1 le1 vs hvs
      have P2 := P1 H1 G1 E1 le1
      dsimp only at P2
      refine ⟨G1, ds.map .dat, datsNo.2, datsK, enterD E1 hvs, ?_⟩
      cases ef : f (ds.map .dat) with
      | no => rw [ef] at P2; exact P2
      | ret d cs' =>
        rw [ef] at P2
        intro v H' G' E' dv
        obtain ⟨E2, le2⟩ := E1.backD datsNo.1 datsNo.2 datsK E'
        exact P2 H' G' E2 le2 v dv
      | retO l cs' =>
        rw [ef] at P2
        intro p us H' G' E' g1 g2 g3 g4 g5
        obtain ⟨E2, le2⟩ := E1.backD datsNo.1 datsNo.2 datsK E'
        have E3 := E2.freeze g1 g2 (S.wn p (E1.there p g3)) (E1.loose g3) g4
        exact P2 H' _ E3 (le2.trans (Le.upd g2)) _ (.lst (SqL.of upd_same) (DpAll.up (Le.upd g2) g5))
      | retK l cs' => rw [ef] at P2; exact P2.elim
      | retV k l cs' => rw [ef] at P2; exact P2.elim
      | exc e' cs' =>
        rw [ef] at P2
        intro cls a H' G' E' ex
        obtain ⟨E2, le2⟩ := E1.backD datsNo.1 datsNo.2 datsK E'
        exact P2 cls a H' G' E2 le2 ex
/-- a call that gives a new list, kept as the slot's own -/
def sCallO (f : FSem) (fa : Rho → O (List D)) : Rho → O (List D) := fun ρ => (fa ρ).bind fun ds ρ1 => match f (ds.map .dat) with
  | .retO l _ => .ok l ρ1
  | .exc e _ => .ex e ρ1
  | _ => .no
theorem r_callO {lv n : Nat} {x : Str} {f : FSem} {e : Expr} {es : List Expr} {p pos : Pos} {fa : Rho → O (List D)} (hK : X.K = B.K) (F : FnGood B X.prog X.w X.mg X.base lv x n f) (hr : Room lv X.A) (hg : Gl X x) (tk : L2N.Takes X Wx) (ha : PA X (e :: es) (tEs B Wx fa)) (hdb : (x == ("__debug__" : Str)) = false)
    (he : starEach (e :: es) X.env = (false, eval e X.env) :: starEach es X.env) (hpl : (backTo pos (starEach es X.env)).any (·.1) = false) : PE X (.Call (.Name x p) (e :: es) [] pos) (tEo B Wx (sCallO f fa)) :=
  pe_late fun σ H Q ⟨S, ρ, G, E, P⟩ => by
    obtain ⟨ad, fd, ps, h1, h2, h3, h4, h5⟩ := F.ex
    rw [← hK] at h1 h3 h4
    have P1 := P.bind
    refine ⟨_, pe_callS h1 hr hg h2 h3 h4 (fun σ => L2N.passAt tk σ) ha hdb he hpl, ⟨S, ρ, G, E, P1.imp fun ds ρ1 H1 G1 E1 le1 P2 vs hvs => ?_⟩⟩
    refine ⟨G1, ds.map .dat, datsNo.2, datsK, enterD E1 hvs, ?_⟩
    cases ef : f (ds.map .dat) with
    | no => rw [ef] at P2; exact P2
    | ret d cs' => rw [ef] at P2; exact P2.elim
    | retK d cs' => rw [ef] at P2; exact P2.elim
    | retV k d cs' => rw [ef] at P2; exact P2.elim
    | retO l cs' =>
      rw [ef] at P2
      intro p us H' G' E' g1 g2 g3 g4 g5
      obtain ⟨E2, le2⟩ := E1.backD datsNo.1 datsNo.2 datsK E'
      exact P2 H' G' E2 le2 p us g1 g2 (S.wn p (E1.there p g3)) (E1.loose g3) g4 g5
    | exc e' cs' =>
      rw [ef] at P2
      intro cls a H' G' E' ex
      obtain ⟨E2, le2⟩ := E1.backD datsNo.1 datsNo.2 datsK E'
      exact P2 cls a H' G' E2 le2 ex
/-- a call that gives a dict -/
def tEk (B : Bs) (Wx : WX) (f : Rho → O (List (List Int))) : TE := fun σ H Q => ∃ S ρ G, EnvOk B S ρ σ H G ∧ Post B S Wx σ G (f ρ) (fun ks _ H' G' => ∀ a, H' a = some (dkOf ks) → G' a = none → S.W a → Q (.ref a) H')
def sCallK (f : FSem) (fa : Rho → O (List D)) : Rho → O (List (List Int)) := fun ρ => (fa ρ).bind fun ds ρ1 => match f (ds.map .dat) with
  | .retK ks _ => .ok ks ρ1
  | .exc e _ => .ex e ρ1
  | _ => .no
theorem r_callK {lv n : Nat} {x : Str} {f : FSem} {e : Expr} {es : List Expr} {p pos : Pos} {fa : Rho → O (List D)} (hK : X.K = B.K) (F : FnGood B X.prog X.w X.mg X.base lv x n f) (hr : Room lv X.A) (hg : Gl X x) (tk : L2N.Takes X Wx) (ha : PA X (e :: es) (tEs B Wx fa)) (hdb : (x == ("__debug__" : Str)) = false)
    (he : starEach (e :: es) X.env = (false, eval e X.env) :: starEach es X.env) (hpl : (backTo pos (starEach es X.env)).any (·.1) = false) : PE X (.Call (.Name x p) (e :: es) [] pos) (tEk B Wx (sCallK f fa)) :=
  pe_late fun σ H Q ⟨S, ρ, G, E, P⟩ => by
    obtain ⟨ad, fd, ps, h1, h2, h3, h4, h5⟩ := F.ex
    rw [← hK] at h1 h3 h4
    have P1 := P.bind
    refine ⟨_, pe_callS h1 hr hg h2 h3 h4 (fun σ => L2N.passAt tk σ) ha hdb he hpl, ⟨S, ρ, G, E, P1.imp fun ds ρ1 H1 G1 E1 le1 P2 vs hvs => ?_⟩⟩
    refine ⟨G1, ds.map .dat, datsNo.2, datsK, enterD E1 hvs, ?_⟩
    cases ef : f (ds.map .dat) with
    | no => rw [ef] at P2; exact P2
    | ret d cs' => rw [ef] at P2; exact P2.elim
    | retO d cs' => rw [ef] at P2; exact P2.elim
    | retV k d cs' => rw [ef] at P2; exact P2.elim
    | retK ks cs' =>
      rw [ef] at P2
      intro a H' G' E' g1 g2 g3
      obtain ⟨E2, le2⟩ := E1.backD datsNo.1 datsNo.2 datsK E'
      exact P2 H' G' E2 le2 a g1 g2 (S.wn a (E1.there a g3))
    | exc e' cs' =>
      rw [ef] at P2
      intro cls a H' G' E' ex
      obtain ⟨E2, le2⟩ := E1.backD datsNo.1 datsNo.2 datsK E'
      exact P2 cls a H' G' E2 le2 ex
def sCallR (f : FSem) (i : Nat) (fa : Rho → O (List D)) : Rho → O D := fun ρ => match heldAt ρ i with
  | none => .no
  | some _ => (fa ρ).bind fun ds ρ1 => match heldAt ρ1 i with
    | none => .no
    | some l => match f (.ref l :: ds.map .dat) with
      | .ret d (.ref l' :: _) => .ok d (setL ρ1 i l')
      | .exc e (.ref l' :: _) => .ex e (setL ρ1 i l')
      | _ => .no
theorem r_callR {lv n i : Nat} {x y : Str} {f : FSem} {es : List Expr} {p py pos : Pos} {fa : Rho → O (List D)} (hK : X.K = B.K) (F : FnGood B X.prog X.w X.mg X.base lv x n f) (hr : Room lv X.A) (hg : Gl X x) (tk : L2N.Takes X Wx) (hN : X.N[i]? = some y) (hv : Vis X.env.scope y) (hd : (y == ("__debug__" : Str)) = false) (hcd : (y == ("__classdict__" : Str)) = false)
    (ha : PA X es (tEs B Wx fa)) (hdb : (x == ("__debug__" : Str)) = false) (he : starEach (.Name y py :: es) X.env = (false, eval (.Name y py) X.env) :: starEach es X.env) (hpl : (backTo pos (starEach es X.env)).any (·.1) = false) : PE X (.Call (.Name x p) (.Name y py :: es) [] pos) (tEv B Wx (sCallR f i fa)) :=
  pe_late fun σ H Q ⟨S, ρ, G, E, P⟩ => by
    obtain ⟨ad, fd, ps, h1, h2, h3, h4, h5⟩ := F.ex
    rw [← hK] at h1 h3 h4
    unfold sCallR at P
    cases hh : heldAt ρ i with
    | none => rw [hh] at P; exact False.elim P
    | some l0 =>
      rw [hh] at P
      obtain ⟨a, us, k1, _⟩ := E.held i l0 (heldAt_hd hh)
      refine ⟨_, pe_callS h1 hr hg h2 h3 h4 (fun σ => L2N.passAt tk σ) (pa_cons (pe_var hN hv hd hcd) ha he) hdb he hpl, ⟨_, k1, S, ρ, G, E, P.bind.imp fun ds ρ1 H1 G1 E1 le1 P2 vs hvs => ?_⟩⟩
      cases h2' : heldAt ρ1 i with
      | none => rw [h2'] at P2; exact False.elim P2
      | some l =>
        rw [h2'] at P2
        have hl := heldAt_hd h2'
        refine ⟨G1, .ref l :: ds.map .dat, ?_, ?_, ?_, ?_⟩
        · intro j m z
          cases j with
          | zero => cases z
          | succ j => exact (datsNo (ds := ds)).2 j m (show (ds.map C.dat)[j]? = some _ from z)
        · intro j m z
          cases j with
          | zero => cases z
          | succ j => exact datsK (ds := ds) j m (show (ds.map C.dat)[j]? = some _ from z)
        · refine E1.enter (by simp [hvs.length]) (fun j d e => ?_) (fun j m z => ?_) (fun j m z => ?_) (fun j m z => ?_) (fun j k m z => ?_) (fun j m e => ?_) fun j1 j2 m1 m2 e1 e2 => ?_
          · cases j with
            | zero => cases e
            | succ j =>
              obtain ⟨v, g1, g2⟩ := hvs.get (dats_get (show (ds.map C.dat)[j]? = some _ from e))
              exact ⟨v, g1, g2⟩
          · cases j with
            | zero => cases z
            | succ j => exact (datsNo (ds := ds)).2 j m (show (ds.map C.dat)[j]? = some _ from z)
          · cases j with
            | zero => cases z
            | succ j => exact datsK (ds := ds) j m (show (ds.map C.dat)[j]? = some _ from z)
          · cases j with
            | zero => cases z
            | succ j => exact absurd (show (ds.map C.dat)[j]? = some _ from z) (datsW (ds := ds) j m)
          · cases j with
            | zero => cases z
            | succ j => exact absurd (show (ds.map C.dat)[j]? = some _ from z) (datsQ (ds := ds) j k m)
          · cases j with
            | zero => cases e; exact ⟨i, a, rfl, hl, k1⟩
            | succ j => exact absurd (show (ds.map C.dat)[j]? = some _ from e) ((datsNo (ds := ds)).1 j m)
          · cases j1 with
            | zero => cases j2 with
              | zero => rfl
              | succ j2 => exact absurd (show (ds.map C.dat)[j2]? = some _ from e2) ((datsNo (ds := ds)).1 j2 m2)
            | succ j1 => exact absurd (show (ds.map C.dat)[j1]? = some _ from e1) ((datsNo (ds := ds)).1 j1 m1)
        · cases ef : f (.ref l :: ds.map .dat) with
          | no => dsimp only at P2; rw [ef] at P2; exact P2
          | ret d cs' =>
            dsimp only at P2
            rw [ef] at P2
            intro v H' G' E' dv
            match cs', P2, E' with
            | .ref l' :: r, P2, E' =>
              obtain ⟨E2, le2⟩ := E1.backR hl k1 E'
              exact P2 H' G' E2 le2 v dv
            | [], P2, E' => exact False.elim P2
            | .dat _ :: _, P2, E' => exact False.elim P2
            | .own _ :: _, P2, E' => exact False.elim P2
            | .dct _ :: _, P2, E' => exact False.elim P2
          | retO l2 cs' => dsimp only at P2; rw [ef] at P2; exact P2.elim
          | retK l2 cs' => dsimp only at P2; rw [ef] at P2; exact P2.elim
          | retV k l2 cs' => dsimp only at P2; rw [ef] at P2; exact P2.elim
          | exc e' cs' =>
            dsimp only at P2
            rw [ef] at P2
            intro cls b H' G' E' ex
            match cs', P2, E' with
            | .ref l' :: r, P2, E' =>
              obtain ⟨E2, le2⟩ := E1.backR hl k1 E'
              exact P2 cls b H' G' E2 le2 ex
            | [], P2, E' => exact False.elim P2
            | .dat _ :: _, P2, E' => exact False.elim P2
            | .own _ :: _, P2, E' => exact False.elim P2
            | .dct _ :: _, P2, E' => exact False.elim P2
end
end Rf

set_option maxRecDepth 100000
set_option maxHeartbeats 4000000
namespace Rf
open PySem PySem.Spec PyProof.Rows L2
/-! ### statements -/
inductive OS where
  | nx (ρ : Rho) | ret (d : D) (ρ : Rho) | retO (l : List D) (ρ : Rho) | retK (ks : List (List Int)) (ρ : Rho) | retV (k : Nat) (d : D) (ρ : Rho) | ex (e : Exc) (ρ : Rho) | no
def OS.bind (x : OS) (f : Rho → OS) : OS := match x with
  | .nx ρ => f ρ
  | .ret d ρ => .ret d ρ
  | .retO l ρ => .retO l ρ
  | .retK l ρ => .retK l ρ
  | .retV k l ρ => .retV k l ρ
  | .ex e ρ => .ex e ρ
  | .no => .no
def O.run {α : Type} (x : O α) (f : α → Rho → OS) : OS := match x with
  | .ok a ρ => f a ρ
  | .ex e ρ => .ex e ρ
  | .no => .no
def PostS (B : Bs) (S : Sit) (Wx : WX) (G : Hp) (o : OS) (D : Ends) : Prop := match o with
  | .nx ρ' => ∀ σ' H' G', EnvOk B S ρ' σ' H' G' → Le G G' → D.nx σ' H'
  | .ret d ρ' => ∀ σ' H' G', EnvOk B S ρ' σ' H' G' → Le G G' → ∀ v, Dp B.K G' v d → D.rt v H'
  | .retO l ρ' => ∀ σ' H' G', EnvOk B S ρ' σ' H' G' → Le G G' → ∀ p vs, H' p = some (.lst vs) → G' p = none → S.W p → Loose ρ' σ' p → vs.length ≤ sizeLine → DpAll B.K G' vs l → D.rt (.ref p) H'
  | .retK ks ρ' => ∀ σ' H' G', EnvOk B S ρ' σ' H' G' → Le G G' → ∀ a, H' a = some (dkOf ks) → G' a = none → S.W a → D.rt (.ref a) H'
  | .retV k d ρ' => ∀ σ' H' G', EnvOk B S ρ' σ' H' G' → Le G G' → ∀ v, B.RV k d G' v → D.rt v H'
  | .ex e ρ' => ∀ cls a σ' H' G', EnvOk B S ρ' σ' H' G' → Le G G' → B.EX e cls a H' → Wx cls a σ' H'
  | .no => False
def tSt (B : Bs) (Wx : WX) (f : Rho → OS) : TS := fun D σ H => ∃ S ρ G, EnvOk B S ρ σ H G ∧ PostS B S Wx G (f ρ) D
section
variable {X : Cx} {B : Bs} {Wx : WX} {S : Sit} {σ : St} {H G G' : Hp} {D : Ends} {α : Type}
theorem PostS.le {o : OS} (h : PostS B S Wx G o D) (le : Le G G') : PostS B S Wx G' o D := by
  cases o with
  | nx ρ => exact fun σ1 H1 G1 E1 l1 => h σ1 H1 G1 E1 (le.trans l1)
  | ret d ρ => exact fun σ1 H1 G1 E1 l1 => h σ1 H1 G1 E1 (le.trans l1)
  | retO l ρ => exact fun σ1 H1 G1 E1 l1 => h σ1 H1 G1 E1 (le.trans l1)
  | retK l ρ => exact fun σ1 H1 G1 E1 l1 => h σ1 H1 G1 E1 (le.trans l1)
  | retV k l ρ => exact fun σ1 H1 G1 E1 l1 => h σ1 H1 G1 E1 (le.trans l1)
  | ex e ρ => exact fun c a σ1 H1 G1 E1 l1 => h c a σ1 H1 G1 E1 (le.trans l1)
  | no => exact h
/-- an expression's part of a statement -/
theorem PostS.run {x : O α} {f : α → Rho → OS} (h : PostS B S Wx G (x.run f) D) : Post B S Wx σ G x (fun a ρ1 H1 G1 => PostS B S Wx G1 (f a ρ1) D) := by
  cases x with
  | ok a ρ => exact fun H1 G1 E1 l1 => PostS.le h l1
  | ex e ρ => exact fun c a H1 G1 E1 l1 => h c a σ H1 G1 E1 l1
  | no => exact h
theorem PostS.bind {x : OS} {f : Rho → OS} (h : PostS B S Wx G (x.bind f) D) : PostS B S Wx G x { D with nx := tSt B Wx f D } := by
  cases x with
  | nx ρ => exact fun σ1 H1 G1 E1 l1 => ⟨S, ρ, G1, E1, PostS.le h l1⟩
  | ret d ρ => exact h
  | retO l ρ => exact h
  | retK l ρ => exact h
  | retV k l ρ => exact h
  | ex e ρ => exact h
  | no => exact h
def sSkip : Rho → OS := fun ρ => .nx ρ
def sSeq (f g : Rho → OS) : Rho → OS := fun ρ => (f ρ).bind g
theorem q_nil : PSs X [] (tSt B Wx sSkip) := pss_nil.imp' fun D σ H ⟨S, ρ, G, E, P⟩ => P σ H G E Le.refl
theorem q_cons {st : Stmt} {rest : List Stmt} {f g : Rho → OS} (h1 : PS X st (tSt B Wx f)) (h2 : PSs X rest (tSt B Wx g)) : PSs X (st :: rest) (tSt B Wx (sSeq f g)) :=
  (pss_cons h1 h2).imp' fun D σ H ⟨S, ρ, G, E, P⟩ => ⟨S, ρ, G, E, P.bind⟩
def sRet (fa : Rho → O Rf.D) : Rho → OS := fun ρ => (fa ρ).run fun d ρ1 => .ret d ρ1
theorem q_ret {e : Expr} {pos : Pos} {fa : Rho → O Rf.D} (he : PE X e (tEv B Wx fa)) : PS X (.Return (some e) pos) (tSt B Wx (sRet fa)) :=
  (ps_ret he).imp' fun D σ H ⟨S, ρ, G, E, P⟩ => ⟨S, ρ, G, E, P.run.imp fun d ρ1 H1 G1 E1 le1 q v hv => q σ H1 G1 E1 Le.refl v hv⟩
def sRetO (fa : Rho → O (List Rf.D)) : Rho → OS := fun ρ => (fa ρ).run fun l ρ1 => .retO l ρ1
theorem q_retO {e : Expr} {pos : Pos} {fa : Rho → O (List Rf.D)} (he : PE X e (tEo B Wx fa)) : PS X (.Return (some e) pos) (tSt B Wx (sRetO fa)) :=
  (ps_ret he).imp' fun D σ H ⟨S, ρ, G, E, P⟩ => ⟨S, ρ, G, E, P.run.imp fun d ρ1 H1 G1 E1 le1 q p vs h1 h2 h3 h4 h5 h6 => q σ H1 G1 E1 Le.refl p vs h1 h2 h3 h4 h5 h6⟩
def sRetN : Rho → OS := fun ρ => .ret .none ρ
theorem q_retN {pos : Pos} : PS X (.Return none pos) (tSt B Wx sRetN) := ps_retN.imp' fun D σ H ⟨S, ρ, G, E, P⟩ => P σ H G E Le.refl _ .non
def sNever : Rho → OS := fun _ => .no
theorem q_never {st : Stmt} : PS X st (tSt B Wx sNever) := ps_never.imp' fun D σ H ⟨S, ρ, G, E, P⟩ => P
def sExpr (fa : Rho → O Rf.D) : Rho → OS := fun ρ => (fa ρ).run fun _ ρ1 => .nx ρ1
theorem q_expr {e : Expr} {pos : Pos} {fa : Rho → O Rf.D} (he : PE X e (tEv B Wx fa)) (hs : swapsWith e none pos.line X.env = pure false) : PS X (.Expr e pos) (tSt B Wx (sExpr fa)) :=
  (ps_expr he hs).imp' fun D σ H ⟨S, ρ, G, E, P⟩ => ⟨S, ρ, G, E, P.run.imp fun d ρ1 H1 G1 E1 le1 q v hv => q σ H1 G1 E1 Le.refl⟩
def sIf (fc : Rho → O Rf.D) (f g : Rho → OS) : Rho → OS := fun ρ => (fc ρ).run fun c ρ1 => match c with
  | .bool true => f ρ1
  | .bool false => g ρ1
  | _ => .no
theorem q_if {c : Expr} {a b : List Stmt} {pos : Pos} {fc : Rho → O Rf.D} {f g : Rho → OS} (hc : PT X c (tEt B Wx fc)) (ha : PSs X a (tSt B Wx f)) (hb : PSs X b (tSt B Wx g)) : PS X (.If c a b pos) (tSt B Wx (sIf fc f g)) :=
  (ps_if hc ha hb).imp' fun D σ H ⟨S, ρ, G, E, P⟩ => by
    refine ⟨S, ρ, G, E, P.run.imp fun d ρ1 H1 G1 E1 le1 q => ?_⟩
    split at q
    · exact ⟨true, rfl, ifT ⟨S, ρ1, G1, E1, q⟩⟩
    · exact ⟨false, rfl, ifF ⟨S, ρ1, G1, E1, q⟩⟩
    · exact False.elim q
/-- target = data -/
def sAsg (t : Tg) (fa : Rho → O Rf.D) : Rho → OS := fun ρ => (fa ρ).run fun d ρ1 => match bindT t d ρ1 with
  | some ρ2 => .nx ρ2
  | none => .no
theorem q_asg {tg e : Expr} {t : Tg} {pos : Pos} {fa : Rho → O Rf.D} (he : PE X e (tEv B Wx fa)) (hg : PG X tg (tTg B t)) (hs : swapsWithSole [tg] e pos.line X.env = pure false) (hw : swappedStores [tg] e X.env = pure none)
    (h1 : (assignEach [tg] X.env).map (·.2) = [assign tg X.env]) : PS X (.Assign [tg] e pos) (tSt B Wx (sAsg t fa)) :=
  (ps_asg he hg hs hw h1).imp' fun D σ H ⟨S, ρ, G, E, P⟩ => by
    refine ⟨S, ρ, G, E, P.run.imp fun d ρ1 H1 G1 E1 le1 q v hv => ?_⟩
    cases e : bindT t d ρ1 with
    | none => rw [e] at q; exact False.elim q
    | some ρ2 =>
      rw [e] at q
      exact ⟨S, ρ1, G1, d, ρ2, E1, hv, e, fun σ' E' _ => q σ' H1 G1 E' Le.refl⟩
/-- name = a new list, the slot's own -/
def ownN (i : Nat) (l : List Rf.D) (ρ : Rho) : Option Rho := match ρ[i]? with
  | none => none
  | some (some (.ref _)) => none
  | some _ => some (ρ.set i (some (.own l)))
def sAsgO (i : Nat) (fa : Rho → O (List Rf.D)) : Rho → OS := fun ρ => (fa ρ).run fun l ρ1 => match ownN i l ρ1 with
  | some ρ2 => .nx ρ2
  | none => .no
theorem EnvOk.ownN {ρ ρ' : Rho} {i : Nat} {l : List Rf.D} {p : Addr} {vs : List V} (E : EnvOk B S ρ σ H G) (h : Rf.ownN i l ρ = some ρ') (hp : H p = some (.lst vs)) (hg : G p = none) (hw : S.W p) (lo : Loose ρ σ p) (hz : vs.length ≤ sizeLine) (hd : DpAll B.K G vs l) :
    EnvOk B S ρ' (σ.set i (some (.ref p))) H G := by
  unfold Rf.ownN at h
  split at h
  · cases h
  · cases h
  · rename_i c n h1
    cases h
    exact E.putOwn hp hg hw lo hz hd fun l z => by
      rw [h1] at z
      exact n l (Option.some.inj z)
theorem q_asgO {i : Nat} {x : Str} {e : Expr} {px pos : Pos} {fa : Rho → O (List Rf.D)} (hN : X.N.Nodup) (hi : X.N[i]? = some x) (hx : Loc X.env.scope x) (hf : X.fn x = true ∨ X.env.scope.names.lookup x = some .local) (he : PE X e (tEo B Wx fa))
    (hs : swapsWith e (some (.Name x px)) pos.line X.env = pure false) : PS X (.Assign [.Name x px] e pos) (tSt B Wx (sAsgO i fa)) :=
  (ps_set hN hi hx he hs hf).imp' fun D σ H ⟨S, ρ, G, E, P⟩ => by
    refine ⟨S, ρ, G, E, P.run.imp fun l ρ1 H1 G1 E1 le1 q p vs h1 h2 h3 h4 h5 h6 => ?_⟩
    cases e : Rf.ownN i l ρ1 with
    | none => rw [e] at q; exact False.elim q
    | some ρ2 =>
      rw [e] at q
      exact q _ H1 G1 (E1.ownN e h1 h2 h3 h4 h5 h6) Le.refl
/-- name = a dict -/
def isDct : Option (Option C) → Bool
  | some (some (.dct _)) => true
  | _ => false
def noDct (ρ : Rho) (i : Nat) : Bool := (List.range ρ.length).all fun j => j == i || !isDct ρ[j]?
theorem noDct_eq {ρ : Rho} {i j : Nat} {ks : List (List Int)} (h : noDct ρ i = true) (hj : ρ[j]? = some (some (.dct ks))) : j = i := by
  have hl : j < ρ.length := (List.getElem?_eq_some_iff.mp hj).1
  have := List.all_eq_true.mp h j (List.mem_range.mpr hl)
  rw [hj] at this
  unfold isDct at this
  simpa using this
def dctN (i : Nat) (ks : List (List Int)) (ρ : Rho) : Option Rho := if noDct ρ i = true then match ρ[i]? with
  | none => none
  | some (some (.ref _)) => none
  | some _ => some (ρ.set i (some (.dct ks)))
  else none
def sAsgK (i : Nat) (fa : Rho → O (List (List Int))) : Rho → OS := fun ρ => (fa ρ).run fun ks ρ1 => match dctN i ks ρ1 with
  | some ρ2 => .nx ρ2
  | none => .no
theorem EnvOk.dctN {ρ ρ' : Rho} {i : Nat} {ks : List (List Int)} {p : Addr} (E : EnvOk B S ρ σ H G) (h : Rf.dctN i ks ρ = some ρ') (hp : H p = some (dkOf ks)) (hg : G p = none) (hw : S.W p) : EnvOk B S ρ' (σ.set i (some (.ref p))) H G := by
  unfold Rf.dctN at h
  split at h
  rotate_left
  · cases h
  rename_i nd
  split at h
  · cases h
  · cases h
  · rename_i c n h1
    cases h
    have nr : ∀ l, ρ[i]? ≠ some (some (.ref l)) := fun l z => by
      rw [h1] at z
      exact n l (Option.some.inj z)
    have E1 := E.drop (i := i) (x := some (.ref p)) nr
    have hl : i < ρ.length := (List.getElem?_eq_some_iff.mp h1).1
    have nh : ∀ {j : Nat} {l : List Rf.D}, Hd (ρ.set i (some (.dct ks))) j l → Hd (ρ.set i none) j l := fun {j l} h => by
      obtain ⟨q, z⟩ := h.of_set fun m => ⟨(fun z => nomatch z), (fun z => nomatch z)⟩
      rcases z with z | z
      · exact .inl (by rw [List.getElem?_set_ne q]; exact z)
      · exact .inr (by rw [List.getElem?_set_ne q]; exact z)
    exact {
      sub := E1.sub
      nt := E1.nt
      sz := E1.sz
      j := E1.j
      keep := E1.keep
      there := E1.there
      gsub := E1.gsub
      gnew := E1.gnew
      len := by have := E1.len; rw [List.length_set] at this ⊢; exact this
      dat := fun j d h => by
        rcases get_set h with ⟨_, z⟩ | ⟨q, z⟩
        · cases z
        · exact E1.dat j d (by rw [List.getElem?_set_ne q]; exact z)
      dct := fun j ks' h => by
        rcases get_set h with ⟨q, z⟩ | ⟨q, z⟩
        · subst q; cases z
          exact ⟨p, List.getElem?_set_self (by rw [← E.len]; exact hl), hp, hg, hw⟩
        · exact E1.dct j ks' (by rw [List.getElem?_set_ne q]; exact z)
      raw := fun j v h => by
        rcases get_set h with ⟨_, z⟩ | ⟨q, z⟩
        · cases z
        · exact E1.raw j v (by rw [List.getElem?_set_ne q]; exact z)
      rel := fun j k d h => by
        rcases get_set h with ⟨_, z⟩ | ⟨q, z⟩
        · cases z
        · exact E1.rel j k d (by rw [List.getElem?_set_ne q]; exact z)
      dnq := fun j k ks1 ks2 h1 h2 => by
        have q : ∀ {j : Nat} {ks' : List (List Int)}, (ρ.set i (some (.dct ks)))[j]? = some (some (C.dct ks')) → j = i := fun {j ks'} h => by
          rcases get_set h with ⟨q, _⟩ | ⟨_, z⟩
          · exact q.symm
          · exact noDct_eq nd z
        rw [q h1, q h2]
      held := fun j l h => E1.held j l (nh h)
      ref := fun j l h => by
        rcases get_set h with ⟨_, z⟩ | ⟨q, z⟩
        · cases z
        · exact E1.ref j l (by rw [List.getElem?_set_ne q]; exact z)
      sep := fun j k l m hjk h1 h2 => E1.sep j k l m hjk (nh h1) (nh h2)
      isref := fun j l h => by
        obtain ⟨l', h'⟩ := E1.isref j l h
        rcases get_set h' with ⟨_, z⟩ | ⟨q, z⟩
        · cases z
        · exact ⟨l', by rw [List.getElem?_set_ne q]; exact z⟩ }
theorem q_asgK {i : Nat} {x : Str} {e : Expr} {px pos : Pos} {fa : Rho → O (List (List Int))} (hN : X.N.Nodup) (hi : X.N[i]? = some x) (hx : Loc X.env.scope x) (hf : X.fn x = true ∨ X.env.scope.names.lookup x = some .local) (he : PE X e (tEk B Wx fa))
    (hs : swapsWith e (some (.Name x px)) pos.line X.env = pure false) : PS X (.Assign [.Name x px] e pos) (tSt B Wx (sAsgK i fa)) :=
  (ps_set hN hi hx he hs hf).imp' fun D σ H ⟨S, ρ, G, E, P⟩ => by
    refine ⟨S, ρ, G, E, P.run.imp fun ks ρ1 H1 G1 E1 le1 q p h1 h2 h3 => ?_⟩
    cases e : Rf.dctN i ks ρ1 with
    | none => rw [e] at q; exact False.elim q
    | some ρ2 =>
      rw [e] at q
      exact q _ H1 G1 (E1.dctN e h1 h2 h3) Le.refl
/-- name = [comprehension] on one line -/
theorem tLc_asg {t : Tg} {vs : List Nat} {fi : Rho → O (List Rf.D)} {fc fe : Rho → O Rf.D} {i : Nat} {D : Ends} (Wy Wz : WX) (ht : ∀ i ∈ t.slots, i ∈ vs) (h : tSt B Wx (sAsg (.nm i) fun ρ => (sLc t vs fi fc fe ρ).bind fun l ρ1 => .ok (.list l) ρ1) D σ H) :
    tAsg (tLc (tIt B Wx fi) (tTg B t) (tEt B Wy fc) (tEv B Wz fe) vs) (gName i) D σ H := by
  obtain ⟨S, ρ, G, E, P⟩ := h
  refine lc_read ht (Q := fun x H1 => gName i x σ H1 D.nx) ⟨S, ρ, G, E, ?_⟩ Wy Wz
  have P1 := (P.run (σ := σ)).bind
  refine P1.imp fun l ρ1 H1 G1 E1 le1 q p us h1 h2 h3 h4 h5 h6 => ?_
  have E2 := E1.freeze h1 h2 h3 h4 h5
  have q2 := q H1 (upd G1 p (.lst us)) E2 (Le.upd h2)
  dsimp only at q2
  cases e : bindT (.nm i) (.list l) ρ1 with
  | none => rw [e] at q2; exact False.elim q2
  | some ρ2 =>
    rw [e] at q2
    exact q2 _ H1 _ (E2.bindN e (.lst (SqL.of upd_same) (DpAll.up (Le.upd h2) h6))) Le.refl
theorem tLc_asgO {t : Tg} {vs : List Nat} {fi : Rho → O (List Rf.D)} {fc fe : Rho → O Rf.D} {i : Nat} {D : Ends} (Wy Wz : WX) (ht : ∀ i ∈ t.slots, i ∈ vs) (h : tSt B Wx (sAsgO i (sLc t vs fi fc fe)) D σ H) :
    tAsg (tLc (tIt B Wx fi) (tTg B t) (tEt B Wy fc) (tEv B Wz fe) vs) (gName i) D σ H := by
  obtain ⟨S, ρ, G, E, P⟩ := h
  refine lc_read ht (Q := fun x H1 => gName i x σ H1 D.nx) ⟨S, ρ, G, E, ?_⟩ Wy Wz
  refine (P.run (σ := σ)).imp fun l ρ1 H1 G1 E1 le1 q p us h1 h2 h3 h4 h5 h6 => ?_
  cases e : Rf.ownN i l ρ1 with
  | none => rw [e] at q; exact False.elim q
  | some ρ2 =>
    rw [e] at q
    exact q _ H1 G1 (E1.ownN e h1 h2 h3 h4 h5 h6) Le.refl
/-- x, y = a, b, stored from the right -/
def sPar (i j : Nat) (fa : Rho → O (List Rf.D)) : Rho → OS := fun ρ => (fa ρ).run fun ds ρ1 => match ds with
  | [d, e] => match (bindN i d ρ1).bind (bindN j e) with
    | some ρ2 => .nx ρ2
    | none => .no
  | _ => .no
theorem q_par {i j : Nat} {x y : Str} {a b : Expr} {px py pt : Pos} {kt k2 : Nat} {pt2 pos : Pos} {fa : Rho → O (List Rf.D)} (hc : X.calm = true) (hN : X.N.Nodup) (hi : X.N[i]? = some x) (hj : X.N[j]? = some y) (hij : i ≠ j)
    (hx : X.env.scope.names.lookup x = some .local) (hy : X.env.scope.names.lookup y = some .local) (ha : PA X [a, b] (tEs B Wx fa))
    (hw : swappedStores [.Tuple [.Name x px, .Name y py] kt pt] (.Tuple [a, b] k2 pt2) X.env = pure (some [x, y]))
    (hs : swapsWithSole [.Tuple [.Name x px, .Name y py] kt pt] (.Tuple [a, b] k2 pt2) pos.line X.env = pure false) :
    PS X (.Assign [.Tuple [.Name x px, .Name y py] kt pt] (.Tuple [a, b] k2 pt2) pos) (tSt B Wx (sPar i j fa)) :=
  (ps_par hc hN hi hj hij hx hy ha hw hs).imp' fun D σ H ⟨S, ρ, G, E, P⟩ => by
    refine ⟨S, ρ, G, E, P.run.imp fun ds ρ1 H1 G1 E1 le1 q vs hvs => ?_⟩
    split at q
    · rename_i d e
      obtain ⟨v, w, rfl, hv, hw⟩ := all2 hvs
      cases e1 : bindN i d ρ1 with
      | none => rw [e1] at q; exact False.elim q
      | some ρ2 =>
        rw [e1] at q
        have q : PostS B S Wx G1 (match bindN j e ρ2 with | some ρ2 => .nx ρ2 | none => .no) D := q
        cases e2 : bindN j e ρ2 with
        | none => rw [e2] at q; exact False.elim q
        | some ρ3 =>
          rw [e2] at q
          exact ⟨v, w, rfl, q _ H1 G1 ((E1.bindN e1 hv).bindN e2 hw) Le.refl⟩
    · exact False.elim q
/-- x, y = a, a new list -/
def sParO (i j : Nat) (fa : Rho → O Rf.D) (fb : Rho → O (List Rf.D)) : Rho → OS := fun ρ => (fa ρ).run fun d ρ1 => (fb ρ1).run fun l ρ2 => match (ownN j l ρ2).bind (bindN i d) with
  | some ρ3 => .nx ρ3
  | none => .no
theorem q_parO {i j : Nat} {x y : Str} {a b : Expr} {px py pt : Pos} {kt k2 : Nat} {pt2 pos : Pos} {fa : Rho → O Rf.D} {fb : Rho → O (List Rf.D)} (hc : X.calm = true) (hN : X.N.Nodup) (hi : X.N[i]? = some x) (hj : X.N[j]? = some y) (hij : i ≠ j)
    (hx : X.env.scope.names.lookup x = some .local) (hy : X.env.scope.names.lookup y = some .local) (ha : PE X a (tEv B Wx fa)) (hb : PE X b (tEo B Wx fb)) (hsa : starEach [a, b] X.env = (false, eval a X.env) :: starEach [b] X.env) (hsb : starEach [b] X.env = (false, eval b X.env) :: starEach [] X.env)
    (hw : swappedStores [.Tuple [.Name x px, .Name y py] kt pt] (.Tuple [a, b] k2 pt2) X.env = pure (some [x, y]))
    (hs : swapsWithSole [.Tuple [.Name x px, .Name y py] kt pt] (.Tuple [a, b] k2 pt2) pos.line X.env = pure false) :
    PS X (.Assign [.Tuple [.Name x px, .Name y py] kt pt] (.Tuple [a, b] k2 pt2) pos) (tSt B Wx (sParO i j fa fb)) :=
  (ps_par hc hN hi hj hij hx hy (pa_cons ha (pa_cons hb pa_nil hsb) hsa) hw hs).imp' fun D σ H ⟨S, ρ, G, E, P⟩ => by
    refine ⟨S, ρ, G, E, P.run.imp fun d ρ1 H1 G1 E1 le1 q v hv => ?_⟩
    refine ⟨S, ρ1, G1, E1, q.run.imp fun l ρ2 H2 G2 E2 le2 q2 p us h1 h2 h3 h4 h5 h6 => ?_⟩
    cases e1 : Rf.ownN j l ρ2 with
    | none => rw [e1] at q2; exact False.elim q2
    | some ρ3 =>
      rw [e1] at q2
      have q2 : PostS B S Wx G2 (match bindN i d ρ3 with | some ρ3 => .nx ρ3 | none => .no) D := q2
      cases e2 : Rf.bindN i d ρ3 with
      | none => rw [e2] at q2; exact False.elim q2
      | some ρ4 =>
        rw [e2] at q2
        refine ⟨v, .ref p, rfl, ?_⟩
        have E3 := (E2.ownN e1 h1 h2 h3 h4 h5 h6).bindN e2 (Dp.up le2 hv)
        rw [List.set_comm _ _ (Ne.symm hij)] at E3
        exact q2 _ H2 G2 E3 Le.refl
/-- name[i] = e, of a list that the slot holds -/
def sItem (i : Nat) (fi fe : Rho → O Rf.D) : Rho → OS := fun ρ => (fe ρ).run fun d ρ1 => match heldAt ρ1 i with
  | none => .no
  | some _ => (fi ρ1).run fun k ρ2 => match heldAt ρ2 i, k with
    | some l, .int n => match ixN l.length n with
      | some j => .nx (setL ρ2 i (l.set j d))
      | none => .no
    | _, _ => .no
theorem q_item {i : Nat} {x : Str} {ei e : Expr} {px ps pos : Pos} {fi fe : Rho → O Rf.D} (hN : X.N[i]? = some x) (hv : Vis X.env.scope x) (hd : (x == ("__debug__" : Str)) = false) (hcd : (x == ("__classdict__" : Str)) = false) (hi : PE X ei (tEv B Wx fi)) (he : PE X e (tEv B Wx fe))
    (ha : ∀ v, assign (.Subscript (.Name x px) ei ps) X.env v = (do
      let ov ← holding [v] (eval (.Name x px) X.env)
      let iv ← holding [v, ov] (eval ei X.env)
      standAt ps
      holding [v, ov, iv] (setItem ov iv v)
      release [v, ov, iv] []))
    (hs : swapsWithSole [.Subscript (.Name x px) ei ps] e pos.line X.env = pure false) (hw : swappedStores [.Subscript (.Name x px) ei ps] e X.env = pure none)
    (h1 : (assignEach [.Subscript (.Name x px) ei ps] X.env).map (·.2) = [assign (.Subscript (.Name x px) ei ps) X.env]) : PS X (.Assign [.Subscript (.Name x px) ei ps] e pos) (tSt B Wx (sItem i fi fe)) :=
  (ps_asg he (pg_sub (pe_var hN hv hd hcd) hi set_list ha) hs hw h1).imp' fun D σ H ⟨S, ρ, G, E, P⟩ => by
    refine ⟨S, ρ, G, E, P.run.imp fun d ρ1 H1 G1 E1 le1 q v hv => ?_⟩
    cases hh : heldAt ρ1 i with
    | none => rw [hh] at q; exact False.elim q
    | some l0 =>
      rw [hh] at q
      obtain ⟨a, us, k1, _⟩ := E1.held i l0 (heldAt_hd hh)
      refine ⟨.ref a, k1, S, ρ1, G1, E1, q.run.imp fun k ρ2 H2 G2 E2 le2 q2 w hw => ?_⟩
      split at q2
      · rename_i l n hl
        cases e1 : ixN l.length n with
        | none => rw [e1] at q2; exact False.elim q2
        | some j =>
          rw [e1] at q2
          have hl' := heldAt_hd hl
          obtain ⟨a', ws, m1, m2, m3, m4, m5, m6⟩ := E2.held i l hl'
          rw [k1] at m1; cases m1
          refine ⟨a, ws, n, j, rfl, dint hw, m2, by rw [m4.length]; exact e1, ?_⟩
          refine q2 _ _ G2 (E2.relist (vs' := ws.set j v) hl' k1 (fun b o e n t => by rw [upd_ne n]; exact e) (fun b e => ?_) Le.refl (fun b o e => .inl e) (fun b o e => ?_) E2.nt E2.sz ?_ upd_same (by rw [List.length_set]; exact m6) (m4.set j (Dp.up le2 hv))) Le.refl
          · by_cases q : b = a
            · rw [q, upd_same] at e; cases e
            · rw [upd_ne q] at e; exact e
          · rw [upd_ne (ne_of_none e m3)]; exact E2.sub b o e
          · exact B.js H2 _ E2.j fun b o e n _ => by
              rw [upd_ne]
              · exact e
              · intro z; rw [z, m2] at e; exact n ws (Option.some.inj e).symm
      · exact False.elim q2
/-- name.append(e) -/
def sApp (i : Nat) (fe : Rho → O Rf.D) : Rho → OS := fun ρ => match heldAt ρ i with
  | none => .no
  | some _ => (fe ρ).run fun d ρ1 => match heldAt ρ1 i with
    | some l => if l.length < 16777216 then .nx (setL ρ1 i (l ++ [d])) else .no
    | none => .no
theorem q_app {i : Nat} {x : Str} {e : Expr} {px apos cpos pos : Pos} {fe : Rho → O Rf.D} (hN : X.N[i]? = some x) (hv : Vis X.env.scope x) (hd : (x == ("__debug__" : Str)) = false) (hcd : (x == ("__classdict__" : Str)) = false) (he : PE X e (tEv B Wx fe))
    (hs : starEach [e] X.env = (false, eval e X.env) :: starEach [] X.env)
    (hfew : ((backTo cpos (starEach [e] X.env)).all (fun x => !x.1) && (backToKw cpos (keywordEach [] X.env)).all (fun x => x.1.isSome) && decide ([e].length + ([] : List Keyword).length + (if ([] : List Keyword).isEmpty then 0 else 1) < 30)) = true)
    (hline : (apos.endLine == cpos.line) = true) (hsw : swapsWith (.Call (.Attribute (.Name x px) "append" apos) [e] [] cpos) none pos.line X.env = pure false) :
    PS X (.Expr (.Call (.Attribute (.Name x px) "append" apos) [e] [] cpos) pos) (tSt B Wx (sApp i fe)) :=
  (ps_expr (pe_bm PySem.F.plainAttrs_list PySem.F.slot_list_append PySem.F.type_list_append mt_append (pe_var hN hv hd hcd) (pa_cons he pa_nil hs) (by rfl) hfew hline hs (by rfl)) hsw).imp' fun D σ H ⟨S, ρ, G, E, P⟩ => by
    unfold sApp at P
    cases hh : heldAt ρ i with
    | none => rw [hh] at P; exact False.elim P
    | some l0 =>
      rw [hh] at P
      obtain ⟨a, us, k1, k2, _⟩ := E.held i l0 (heldAt_hd hh)
      refine ⟨.ref a, k1, .inl ⟨rfl, us, SqL.of k2⟩, S, ρ, G, E, P.run.imp fun d ρ1 H1 G1 E1 le1 q v hv => ?_⟩
      cases h2 : heldAt ρ1 i with
      | none => rw [h2] at q; exact False.elim q
      | some l =>
        rw [h2] at q
        dsimp only at q
        split at q
        · rename_i hlen
          have hl' := heldAt_hd h2
          obtain ⟨a', ws, m1, m2, m3, m4, m5, m6⟩ := E1.held i l hl'
          rw [k1] at m1; cases m1
          have hlt : ws.length < sizeLine := by rw [line_eq, m4.length]; exact hlen
          refine ⟨a, ws, v, rfl, rfl, m2, hlt, ?_⟩
          refine q _ _ G1 (E1.relist (vs' := ws ++ [v]) hl' k1 (fun b o e n t => by rw [upd_ne n]; exact e) (fun b e => ?_) Le.refl (fun b o e => .inl e) (fun b o e => ?_) E1.nt E1.sz ?_ upd_same (by rw [List.length_append]; exact hlt) (m4.append (.cons hv .nil))) Le.refl
          · by_cases q : b = a
            · rw [q, upd_same] at e; cases e
            · rw [upd_ne q] at e; exact e
          · rw [upd_ne (ne_of_none e m3)]; exact E1.sub b o e
          · exact B.js H1 _ E1.j fun b o e n _ => by
              rw [upd_ne]
              · exact e
              · intro z; rw [z, m2] at e; exact n ws (Option.some.inj e).symm
        · exact False.elim q
/-! ### loops -/
def forGo (t : Tg) (f : Rho → OS) : List Rf.D → Rho → OS
  | [], ρ => .nx ρ
  | x :: xs, ρ => match bindT t x ρ with
    | none => .no
    | some ρ1 => (f ρ1).bind (forGo t f xs)
def sFor (t : Tg) (fi : Rho → O (List Rf.D)) (f : Rho → OS) : Rho → OS := fun ρ => (fi ρ).run fun xs ρ1 => forGo t f xs ρ1
theorem q_for {tg iter : Expr} {body : List Stmt} {t : Tg} {pos : Pos} {fi : Rho → O (List Rf.D)} {f : Rho → OS} (hp : PassesOwn (model X.prog X.w) X.A X.env X.xe) (hc : X.calm = true) (hi : PI X tg iter (tIt B Wx fi)) (hg : PG X tg (tTg B t)) (hb : PSs X body (tSt B Wx f)) (hfs : ∀ x, foldedSetIterable iter X.env x = pure x) :
    PS X (.For tg iter body [] pos) (tSt B Wx (sFor t fi f)) :=
  (ps_for hp hc hi hg hb hfs).imp' fun D σ H ⟨S, ρ, G, E, P⟩ => by
    refine ⟨S, ρ, G, E, P.run.imp fun xs ρ1 H1 G1 E1 le1 q hxs J FJ => ?_⟩
    refine ⟨fun i m σ H => m = xs.length - i ∧ i ≤ xs.length ∧ ∃ ρi Gi, EnvOk B S ρi σ H Gi ∧ Le G1 Gi ∧ PostS B S Wx Gi (forGo t f (xs.drop i) ρi) D, ⟨_, rfl, Nat.zero_le _, ρ1, G1, E1, Le.refl, q⟩, ?_⟩
    rintro i m σi Hi ⟨rfl, hi, ρi, Gi, Ei, lei, qi⟩
    obtain ⟨fgo, fstop⟩ := FJ S ρi σi Hi Gi Ei lei
    by_cases hlt : i < xs.length
    · refine .inr ?_
      obtain ⟨x, hx⟩ : ∃ x, xs[i]? = some x := ⟨xs[i], by simp [hlt]⟩
      have hdrop : xs.drop i = x :: xs.drop (i + 1) := by
        rw [List.drop_eq_getElem_cons hlt]
        have : xs[i] = x := by
          have := List.getElem?_eq_getElem hlt
          rw [this] at hx; exact Option.some.inj hx
        rw [this]
      obtain ⟨go1, go2⟩ := fgo i x hx
      rw [hdrop] at qi
      unfold forGo at qi
      refine ⟨go1, fun σ' H' => (xs.length - (i + 1)) = xs.length - (i + 1) ∧ i + 1 ≤ xs.length ∧ ∃ ρi Gi, EnvOk B S ρi σ' H' Gi ∧ Le G1 Gi ∧ PostS B S Wx Gi (forGo t f (xs.drop (i + 1)) ρi) D, fun σ' H' w => ⟨_, by omega, w⟩, fun xv H' hy => ?_⟩
      obtain ⟨G2, E2, le2, dp2⟩ := go2 xv H' hy
      cases eb : bindT t x ρi with
      | none => rw [eb] at qi; exact False.elim qi
      | some ρ3 =>
        rw [eb] at qi
        refine ⟨S, ρi, G2, x, ρ3, E2, dp2, eb, fun σ3 E3 off => ⟨S, ρ3, G2, E3, ?_⟩⟩
        have qb := PostS.le qi.bind le2
        cases ef : f ρ3 with
        | nx ρ4 =>
          rw [ef] at qb
          intro σ4 H4 G4 E4 le4
          refine ⟨rfl, hlt, ρ4, G4, E4, lei.trans (le2.trans le4), ?_⟩
          have z : PostS B S Wx Gi (forGo t f (xs.drop (i + 1)) ρ4) D := by
            have z := qi
            dsimp only at z
            rw [ef] at z; exact z
          exact z.le (le2.trans le4)
        | ret d ρ4 => rw [ef] at qb; exact qb
        | retO d ρ4 => rw [ef] at qb; exact qb
        | retK d ρ4 => rw [ef] at qb; exact qb
        | retV k d ρ4 => rw [ef] at qb; exact qb
        | ex e ρ4 => rw [ef] at qb; exact qb
        | no => rw [ef] at qb; exact qb
    · have e : i = xs.length := by omega
      subst e
      rw [List.drop_length] at qi
      exact .inl ⟨fstop, qi σi Hi Gi Ei Le.refl⟩
def whileGo (fc : Rho → O Rf.D) (f : Rho → OS) : Nat → Rho → OS
  | 0, _ => .no
  | n + 1, ρ => (fc ρ).run fun c ρ1 => match c with
    | .bool true => (f ρ1).bind (whileGo fc f n)
    | .bool false => .nx ρ1
    | _ => .no
def sWhile (fuel : Rho → Nat) (fc : Rho → O Rf.D) (f : Rho → OS) : Rho → OS := fun ρ => whileGo fc f (fuel ρ) ρ
theorem q_while {c : Expr} {body : List Stmt} {pos : Pos} {fuel : Rho → Nat} {fc : Rho → O Rf.D} {f : Rho → OS} (hp : PassesOwn (model X.prog X.w) X.A X.env X.xe) (hc : PT X c (tEt B Wx fc)) (hb : PSs X body (tSt B Wx f)) :
    PS X (.While c body [] pos) (tSt B Wx (sWhile fuel fc f)) :=
  (ps_while hp hc hb).imp' fun D σ H ⟨S, ρ, G, E, P⟩ => by
    refine ⟨fun m σ H => ∃ ρ G, EnvOk B S ρ σ H G ∧ PostS B S Wx G (whileGo fc f m ρ) D, ⟨_, ρ, G, E, P⟩, ?_⟩
    rintro m σ1 H1 ⟨ρ1, G1, E1, q1⟩
    cases m with
    | zero => exact False.elim q1
    | succ n =>
      unfold whileGo at q1
      refine ⟨S, ρ1, G1, E1, q1.run.imp fun c ρ2 H2 G2 E2 le2 q2 => ?_⟩
      split at q2
      · refine ⟨true, rfl, ifT ⟨fun σ' H' => ∃ ρ G, EnvOk B S ρ σ' H' G ∧ PostS B S Wx G (whileGo fc f n ρ) D, fun σ' H' w => ⟨n, Nat.lt_succ_self n, w⟩, S, ρ2, G2, E2, ?_⟩⟩
        have qb := q2.bind
        cases ef : f ρ2 with
        | nx ρ4 =>
          intro σ4 H4 G4 E4 le4
          refine ⟨ρ4, G4, E4, ?_⟩
          have z : PostS B S Wx G2 (whileGo fc f n ρ4) D := by rw [ef] at q2; exact q2
          exact z.le le4
        | ret d ρ4 => rw [ef] at qb; exact qb
        | retO d ρ4 => rw [ef] at qb; exact qb
        | retK d ρ4 => rw [ef] at qb; exact qb
        | retV k d ρ4 => rw [ef] at qb; exact qb
        | ex e ρ4 => rw [ef] at qb; exact qb
        | no => rw [ef] at qb; exact qb
      · exact ⟨false, rfl, ifF (q2 σ1 H2 G2 E2 Le.refl)⟩
      · exact False.elim q2
end
end Rf

set_option maxRecDepth 100000
set_option maxHeartbeats 4000000
namespace Rf
open PySem PySem.Spec PyProof.Rows L2
/-! ### a def of data; a def whose first argument is lent -/
inductive FD where | ret (d : D) | retO (l : List D) | retK (ks : List (List Int)) | retV (k : Nat) (d : D) | exc (e : Exc) | no
inductive FL where | ret (d : D) (l : List D) | exc (e : Exc) (l : List D) | no
def datsOf : List C → Option (List D)
  | [] => some []
  | .dat d :: r => (datsOf r).map (d :: ·)
  | _ :: _ => none
theorem datsOf_dats : ∀ ds : List D, datsOf (ds.map C.dat) = some ds
  | [] => rfl
  | d :: ds => by rw [List.map_cons]; unfold datsOf; rw [datsOf_dats ds]; rfl
theorem datsOf_eq : ∀ {cs : List C} {ds : List D}, datsOf cs = some ds → cs = ds.map C.dat
  | [], ds, h => by cases h; rfl
  | .dat d :: r, ds, h => by
    unfold datsOf at h
    cases q : datsOf r with
    | none => rw [q] at h; cases h
    | some es => rw [q] at h; cases h; rw [List.map_cons, datsOf_eq q]
  | .own _ :: _, _, h => by cases h
  | .ref _ :: _, _, h => by cases h
  | .dct _ :: _, _, h => by cases h
def mD (f : List D → FD) : FSem := fun cs => match datsOf cs with
  | some ds => match f ds with
    | .ret d => .ret d cs
    | .retO l => .retO l cs
    | .retK l => .retK l cs
    | .retV k l => .retV k l cs
    | .exc e => .exc e cs
    | .no => .no
  | none => .no
def mR (f : List D → List D → FL) : FSem := fun cs => match cs with
  | .ref l :: r => match datsOf r with
    | some ds => match f l ds with
      | .ret d l' => .ret d (.ref l' :: r)
      | .exc e l' => .exc e (.ref l' :: r)
      | .no => .no
    | none => .no
  | _ => .no
def start0 (n : Nat) (cs : List C) : Rho := argsR cs ++ List.replicate (n - cs.length) none
def runD (np n : Nat) (fn : Rho → OS) : List D → FD := fun ds => if ds.length = np then match fn (start0 n (ds.map .dat)) with
    | .nx _ => .ret .none
    | .ret d _ => .ret d
    | .retO l _ => .retO l
    | .retK l _ => .retK l
    | .retV k l _ => .retV k l
    | .ex e _ => .exc e
    | .no => .no
  else .no
def refC : Option (Option C) → Option (List D)
  | some (some (.ref l)) => some l
  | _ => none
def refAt0 (ρ : Rho) : Option (List D) := refC ρ[0]?
def runR (np n : Nat) (fn : Rho → OS) : List D → List D → FL := fun l ds => if ds.length + 1 = np then match fn (start0 n (.ref l :: ds.map .dat)) with
    | .nx ρ => match refAt0 ρ with | some l' => .ret .none l' | none => .no
    | .ret d ρ => match refAt0 ρ with | some l' => .ret d l' | none => .no
    | .retO _ _ => .no
    | .retK _ _ => .no
    | .retV _ _ _ => .no
    | .ex e ρ => match refAt0 ρ with | some l' => .exc e l' | none => .no
    | .no => .no
  else .no
section
variable {B : Bs}
theorem start_get {N : List Str} {vs : List V} {i : Nat} {v : V} (h : vs[i]? = some v) : (L2.start N vs)[i]? = some (some v) := by
  unfold L2.start
  have hl : i < vs.length := (List.getElem?_eq_some_iff.mp h).1
  rw [List.getElem?_append_left (by rw [List.length_map]; exact hl), List.getElem?_map, h]; rfl
theorem start_inv {N : List Str} {vs : List V} {i : Nat} {v : V} (h : (L2.start N vs)[i]? = some (some v)) : vs[i]? = some v := by
  unfold L2.start at h
  by_cases hl : i < vs.length
  · rw [List.getElem?_append_left (by rw [List.length_map]; exact hl), List.getElem?_map] at h
    cases e : vs[i]? with
    | none => rw [e] at h; cases h
    | some c => rw [e] at h; cases h; rfl
  · rw [List.getElem?_append_right (by rw [List.length_map]; omega), List.getElem?_replicate] at h
    split at h <;> cases h
theorem start0_get {n : Nat} {cs : List C} {i : Nat} {c : C} (h : cs[i]? = some c) : (start0 n cs)[i]? = some (some c) := by
  unfold start0 argsR
  have hl : i < cs.length := (List.getElem?_eq_some_iff.mp h).1
  rw [List.getElem?_append_left (by rw [List.length_map]; exact hl), List.getElem?_map, h]; rfl
theorem start0_inv {n : Nat} {cs : List C} {i : Nat} {c : C} (h : (start0 n cs)[i]? = some (some c)) : cs[i]? = some c := by
  unfold start0 argsR at h
  by_cases hl : i < cs.length
  · rw [List.getElem?_append_left (by rw [List.length_map]; exact hl), List.getElem?_map] at h
    cases e : cs[i]? with
    | none => rw [e] at h; cases h
    | some c => rw [e] at h; cases h; rfl
  · rw [List.getElem?_append_right (by rw [List.length_map]; omega), List.getElem?_replicate] at h
    split at h <;> cases h
theorem args_get {cs : List C} {i : Nat} {c : C} (h : cs[i]? = some c) : (argsR cs)[i]? = some (some c) := by
  unfold argsR; rw [List.getElem?_map, h]; rfl
theorem argsS_of {vs : List V} {i : Nat} {v : V} (h : vs[i]? = some v) : (argsS vs)[i]? = some (some v) := by
  unfold argsS; rw [List.getElem?_map, h]; rfl
theorem Hd_start {n : Nat} {cs : List C} {i : Nat} {l : List D} (h : Hd (start0 n cs) i l) : Hd (argsR cs) i l := by
  rcases h with h | h
  · exact .inl (args_get (start0_inv h))
  · exact .inr (args_get (start0_inv h))
theorem Hd_args {n : Nat} {cs : List C} {i : Nat} {l : List D} (h : Hd (argsR cs) i l) : Hd (start0 n cs) i l := by
  rcases h with h | h
  · exact .inl (start0_get (argsR_ref h))
  · exact .inr (start0_get (argsR_ref h))
/-- the arguments' environment, with the def's other slots -/
theorem EnvOk.widen {cs : List C} {vs : List V} {N : List Str} {H G : Hp} (E : EnvOk B (Rf.reb (argsR cs) (argsS vs) H G) (argsR cs) (argsS vs) H G) (hn : cs.length ≤ N.length) :
    EnvOk B (Rf.reb (start0 N.length cs) (L2.start N vs) H G) (start0 N.length cs) (L2.start N vs) H G := by
  have hl : cs.length = vs.length := by have := E.len; unfold argsR argsS at this; rw [List.length_map, List.length_map] at this; exact this
  exact {
    sub := E.sub
    nt := E.nt
    sz := E.sz
    j := E.j
    keep := fun b o e _ _ => e
    there := fun b e => e
    gsub := fun b o e => e
    gnew := fun b o e => .inl e
    len := by
      unfold start0 L2.start argsR
      rw [List.length_append, List.length_append, List.length_map, List.length_map, List.length_replicate, List.length_replicate, hl]
    dat := fun i d h => by
      obtain ⟨v, h1, h2⟩ := E.dat i d (args_get (start0_inv h))
      exact ⟨v, start_get (argsS_get h1), h2⟩
    dct := fun i ks h => by
      obtain ⟨a, h1, h2, h3, _⟩ := E.dct i ks (args_get (start0_inv h))
      exact ⟨a, start_get (argsS_get h1), h2, h3, .inr (.inr ⟨i, ks, h, start_get (argsS_get h1)⟩)⟩
    raw := fun i v h => start_get (argsS_get (E.raw i v (args_get (start0_inv h))))
    rel := fun i k d h => by
      obtain ⟨v, h1, h2⟩ := E.rel i k d (args_get (start0_inv h))
      exact ⟨v, start_get (argsS_get h1), h2⟩
    dnq := fun i j ks ks' h1 h2 => E.dnq i j ks ks' (args_get (start0_inv h1)) (args_get (start0_inv h2))
    held := fun i l h => by
      obtain ⟨a, us, h1, h2, h3, h4, _, h6⟩ := E.held i l (Hd_start h)
      have h1' := start_get (N := N) (argsS_get h1)
      exact ⟨a, us, h1', h2, h3, h4, .inr (.inl ⟨i, l, h, h1'⟩), h6⟩
    ref := fun i l h => ⟨rfl, l, h⟩
    sep := fun i j l m hij h1 h2 => by
      have := E.sep i j l m hij (Hd_start h1) (Hd_start h2)
      obtain ⟨a, _, k1, _⟩ := E.held i l (Hd_start h1)
      obtain ⟨b, _, k2, _⟩ := E.held j m (Hd_start h2)
      rw [start_get (argsS_get k1), start_get (argsS_get k2)]
      rw [k1, k2] at this
      exact this
    isref := fun i l h => ⟨l, h⟩ }
/-- what is left of it behind the def: cs' the arguments as they are then -/
theorem EnvOk.narrow {cs cs' : List C} {vs : List V} {N : List Str} {ρ' : Rho} {σ' : St} {H G H' G' : Hp} (E0 : EnvOk B (Rf.reb (argsR cs) (argsS vs) H G) (argsR cs) (argsS vs) H G) (no : ∀ (i : Nat) l, cs[i]? ≠ some (C.own l)) (hn : cs.length ≤ N.length)
    (E : EnvOk B (Rf.reb (start0 N.length cs) (L2.start N vs) H G) ρ' σ' H' G') (hl' : cs'.length = cs.length) (hd : ∀ (i : Nat) d, cs'[i]? = some (C.dat d) → cs[i]? = some (C.dat d)) (no' : ∀ (i : Nat) l, cs'[i]? ≠ some (C.own l)) (nk' : ∀ (i : Nat) ks, cs'[i]? ≠ some (C.dct ks)) (hw : ∀ (i : Nat) v, cs'[i]? = some (C.raw v) → cs[i]? = some (C.raw v)) (hq : ∀ (i k : Nat) d, cs'[i]? = some (C.rel k d) → cs[i]? = some (C.rel k d))
    (hr : ∀ (i : Nat) l, cs'[i]? = some (C.ref l) → (∃ l0, cs[i]? = some (C.ref l0)) ∧ ρ'[i]? = some (some (.ref l))) (hr' : ∀ (i : Nat) l, cs[i]? = some (C.ref l) → ∃ l', cs'[i]? = some (C.ref l')) :
    EnvOk B (Rf.reb (argsR cs) (argsS vs) H G) (argsR cs') (argsS vs) H' G' := by
  have hl : cs.length = vs.length := by have := E0.len; unfold argsR argsS at this; rw [List.length_map, List.length_map] at this; exact this
  have w : ∀ a, (Rf.reb (start0 N.length cs) (L2.start N vs) H G).W a → (Rf.reb (argsR cs) (argsS vs) H G).W a := fun a h => by
    rcases h with h | ⟨i, l, h, h1⟩ | ⟨i, ks, h, h1⟩
    · exact .inl h
    · exact .inr (.inl ⟨i, l, Hd_start h, argsS_of (start_inv h1)⟩)
    · exact .inr (.inr ⟨i, ks, args_get (start0_inv h), argsS_of (start_inv h1)⟩)
  have hh : ∀ {i : Nat} {l : List D}, Hd (argsR cs') i l → cs'[i]? = some (C.ref l) := fun {i l} h => by
    rcases h with h | h
    · exact absurd (argsR_ref h) (no' i l)
    · exact argsR_ref h
  have hs : ∀ {i : Nat} {l : List D}, Hd (argsR cs') i l → ∃ a, σ'[i]? = some (some (.ref a)) ∧ (argsS vs)[i]? = some (some (.ref a)) := fun {i l} h => by
    obtain ⟨⟨l0, h0⟩, h1⟩ := hr i l (hh h)
    obtain ⟨k1, _⟩ := E.ref i l h1
    obtain ⟨a, us, m1, _⟩ := E0.held i l0 (.inr (args_get h0))
    refine ⟨a, ?_, m1⟩
    rw [k1]; exact start_get (argsS_get m1)
  exact {
    sub := E.sub
    nt := E.nt
    sz := E.sz
    j := E.j
    keep := fun b o e n t => E.keep b o e (fun z => n (w b z)) t
    there := fun b e => E.there b e
    gsub := fun b o e => E.gsub b o e
    gnew := fun b o e => by
      rcases E.gnew b o e with h | h
      · exact .inl h
      · exact .inr (w b h)
    len := by unfold argsR argsS; rw [List.length_map, List.length_map, hl', hl]
    dat := fun i d h => by
      obtain ⟨v, h1, h2⟩ := E0.dat i d (args_get (hd i d (argsR_ref h)))
      exact ⟨v, h1, Dp.up (fun b o e => E.gsub b o e) h2⟩
    dct := fun i ks h => absurd (argsR_ref h) (nk' i ks)
    raw := fun i v h => E0.raw i v (args_get (hw i v (argsR_ref h)))
    rel := fun i k d h => by
      obtain ⟨v, h1, h2⟩ := E0.rel i k d (args_get (hq i k d (argsR_ref h)))
      exact ⟨v, h1, B.rs (fun b o e => E.gsub b o e) h2⟩
    dnq := fun i j ks ks' h _ => absurd (argsR_ref h) (nk' i ks)
    held := fun i l h => by
      obtain ⟨⟨l0, h0⟩, h1⟩ := hr i l (hh h)
      obtain ⟨a, us, m1, m2, m3, m4, m5, m6⟩ := E.held i l (.inr h1)
      obtain ⟨a', k1, k2⟩ := hs h
      rw [m1] at k1; cases k1
      exact ⟨a, us, k2, m2, m3, m4, w a m5, m6⟩
    ref := fun i l h => ⟨rfl, by
      obtain ⟨⟨l0, h0⟩, _⟩ := hr i l (argsR_ref h)
      exact ⟨l0, args_get h0⟩⟩
    sep := fun i j l m hij h1 h2 => by
      obtain ⟨a, k1, k2⟩ := hs h1
      obtain ⟨b, k3, k4⟩ := hs h2
      obtain ⟨_, g1⟩ := hr i l (hh h1)
      obtain ⟨_, g2⟩ := hr j m (hh h2)
      have := E.sep i j l m hij (.inr g1) (.inr g2)
      rw [k1, k3] at this
      rw [k2, k4]; exact this
    isref := fun i l h => by
      obtain ⟨l', h'⟩ := hr' i l (argsR_ref h)
      exact ⟨l', args_get h'⟩ }
section
variable {P : Program} {w : World} {mg : Str → Option Value} {base : Heap}
abbrev wishOf (E : XK) : WX := fun cls d _ H => E cls d H
/-- the def's code object is cdv -/
def CodeAt (K : PySem.W.Frag) (x qual : Str) (st : Stmt) (f : Addr) (fd : FuncData) (cdv : Value) : Prop := ∃ (oc : Value) (od : Option Addr) (kV dc pm : Value) (an : Option Addr) (ct : Value) (osl : Array (Option Value)),
  fd = PySem.W.fnOf x qual (defArgs st) (defBody st) (defScope st) .none kV dc pm an cdv ct ∧ K.lookup f = some ⟨oc, od, .func fd, osl⟩
/-- a def's promise by its body; what it raises bears no context -/
theorem okN {K : PySem.W.Frag} {x qual : Str} {st : Stmt} {f : Addr} {fd : FuncData} {N ps : List Str} {k : Nat} {sp : Sp} (F : Fun K x qual st f fd) (S : FnScope N ps (defScope st)) (len : ∀ vs H Q E, sp vs H Q E → vs.length = ps.length)
    (hbody : ∀ (cdv : Value), CodeAt K x qual st f fd cdv → ∀ (A : Around) (outer : List Env) (s : Shared) (H : Hp) (vs : List V) (Q : VK) (E : XK), Room k (A.deeper (envOfC qual (defScope st) s.heap.objs.size f cdv)) → sp vs H Q E →
      ∃ t, PSs (cxOf (L2N.CX P w) P w K mg base N qual (defScope st) f cdv A outer s H E) (defBody st) t ∧ t { nx := fun _ H' => Q .non H', rt := Q } (L2.start N vs) H) : FnOk P w K mg base (L2N.CX P w) (k + 1) f fd ps sp := by
  obtain ⟨oc, od, kV, dc, pm, an, cdv, ct, osl, rfl, lk, hcd⟩ := F.ex
  exact fn_of lk hcd S len fun A outer s H vs Q E hr hsp => hbody cdv ⟨oc, od, kV, dc, pm, an, ct, osl, rfl, lk⟩ A outer s H vs Q E hr hsp
theorem ok_DC {x qual : Str} {st : Stmt} {f : Addr} {fd : FuncData} {N ps : List Str} {k : Nat} {fn : Rho → OS} (F : Fun B.K x qual st f fd) (S : FnScope N ps (defScope st))
    (hbody : ∀ (cdv : Value), CodeAt B.K x qual st f fd cdv → ∀ (A : Around) (outer : List Env) (s : Shared) (H : Hp) (E : XK), Room k (A.deeper (envOfC qual (defScope st) s.heap.objs.size f cdv)) →
      PSs (cxOf (L2N.CX P w) P w B.K mg base N qual (defScope st) f cdv A outer s H E) (defBody st) (tSt B (wishOf E) fn)) : FnOk P w B.K mg base (L2N.CX P w) (k + 1) f fd ps (spOf B (mD (runD ps.length N.length fn))) := by
  have hps : ps.length ≤ N.length := by have := congrArg List.length S.pre; rw [List.length_take] at this; omega
  have sel : ∀ {cs : List C}, mD (runD ps.length N.length fn) cs ≠ .no → ∃ ds : List D, cs = ds.map C.dat ∧ ds.length = ps.length := fun {cs} h => by
    unfold mD at h
    cases e : datsOf cs with
    | none => rw [e] at h; exact absurd rfl h
    | some ds =>
      rw [e] at h
      refine ⟨ds, datsOf_eq e, ?_⟩
      dsimp only at h
      unfold runD at h
      by_cases q : ds.length = ps.length
      · exact q
      · rw [if_neg q] at h; exact absurd rfl h
  refine okN F S (fun vs H Q E h => ?_) (fun cdv hcd A outer s H vs Q E hr h => ?_)
  · obtain ⟨G, cs, no, nk, E0, h⟩ := h
    have hne : mD (runD ps.length N.length fn) cs ≠ .no := fun z => by rw [z] at h; exact h
    obtain ⟨ds, rfl, hl⟩ := sel hne
    have := E0.len
    unfold argsR argsS at this
    rw [List.length_map, List.length_map, List.length_map] at this
    omega
  · obtain ⟨G, cs, no, nk, E0, h⟩ := h
    have hne : mD (runD ps.length N.length fn) cs ≠ .no := fun z => by rw [z] at h; exact h
    obtain ⟨ds, rfl, hl⟩ := sel hne
    refine ⟨_, hbody cdv hcd A outer s H E hr, ?_⟩
    have hcl : (ds.map C.dat).length ≤ N.length := by rw [List.length_map]; omega
    refine ⟨_, _, G, E0.widen hcl, ?_⟩
    have nar : ∀ {ρ' σ' H' G'}, EnvOk B (Rf.reb (start0 N.length (ds.map C.dat)) (L2.start N vs) H G) ρ' σ' H' G' → EnvOk B (Rf.reb (argsR (ds.map C.dat)) (argsS vs) H G) (argsR (ds.map C.dat)) (argsS vs) H' G' := fun E1 =>
      E0.narrow no hcl E1 rfl (fun i d h => h) no nk (fun i v h => h) (fun i k d h => h) (fun i l h => absurd h (datsNo.1 i l)) (fun i l h => absurd h (datsNo.1 i l))
    unfold mD at h
    rw [datsOf_dats] at h
    dsimp only at h
    unfold runD at h
    rw [if_pos hl] at h
    cases ef : fn (start0 N.length (ds.map C.dat)) with
    | nx ρ' =>
      rw [ef] at h
      exact fun σ' H' G' E1 _ => h .non H' G' (nar E1) .non
    | ret d ρ' =>
      rw [ef] at h
      exact fun σ' H' G' E1 _ v hv => h v H' G' (nar E1) hv
    | retO l ρ' =>
      rw [ef] at h
      intro σ' H' G' E1 _ p us g1 g2 g3 g4 g5 g6
      refine h p us H' G' (nar E1) g1 g2 ?_ g5 g6
      rcases g3 with g3 | ⟨i, m, g3, _⟩ | ⟨i, ks, g3, _⟩
      · exact g3
      · rcases g3 with g3 | g3
        · exact absurd (start0_inv g3) (datsNo.2 i m)
        · exact absurd (start0_inv g3) (datsNo.1 i m)
      · exact absurd (start0_inv g3) (datsK i ks)
    | retK ks0 ρ' =>
      rw [ef] at h
      intro σ' H' G' E1 _ p g1 g2 g3
      refine h p H' G' (nar E1) g1 g2 ?_
      rcases g3 with g3 | ⟨i, m, g3, _⟩ | ⟨i, ks, g3, _⟩
      · exact g3
      · rcases g3 with g3 | g3
        · exact absurd (start0_inv g3) (datsNo.2 i m)
        · exact absurd (start0_inv g3) (datsNo.1 i m)
      · exact absurd (start0_inv g3) (datsK i ks)
    | retV k d ρ' =>
      rw [ef] at h
      exact fun σ' H' G' E1 _ v hv => h v H' G' (nar E1) hv
    | ex e ρ' =>
      rw [ef] at h
      exact fun cls a σ' H' G' E1 _ ex => h cls a H' G' (nar E1) ex
    | no => rw [ef] at h; exact h
theorem ok_D {x qual : Str} {st : Stmt} {f : Addr} {fd : FuncData} {N ps : List Str} {k : Nat} {fn : Rho → OS} (F : Fun B.K x qual st f fd) (S : FnScope N ps (defScope st))
    (hbody : ∀ (cdv : Value) (A : Around) (outer : List Env) (s : Shared) (H : Hp) (E : XK), Room k (A.deeper (envOfC qual (defScope st) s.heap.objs.size f cdv)) →
      PSs (cxOf (L2N.CX P w) P w B.K mg base N qual (defScope st) f cdv A outer s H E) (defBody st) (tSt B (wishOf E) fn)) : FnOk P w B.K mg base (L2N.CX P w) (k + 1) f fd ps (spOf B (mD (runD ps.length N.length fn))) :=
  ok_DC F S fun cdv _ => hbody cdv
theorem good_D {x qual : Str} {st : Stmt} {f : Addr} {fd : FuncData} {N ps : List Str} {k : Nat} {fn : Rho → OS} (F : Fun B.K x qual st f fd) (S : FnScope N ps (defScope st)) (hb : Binds B.K fd ps []) (hm : mg x = some (.ref f))
    (hbody : ∀ (cdv : Value) (A : Around) (outer : List Env) (s : Shared) (H : Hp) (E : XK), Room k (A.deeper (envOfC qual (defScope st) s.heap.objs.size f cdv)) →
      PSs (cxOf (L2N.CX P w) P w B.K mg base N qual (defScope st) f cdv A outer s H E) (defBody st) (tSt B (wishOf E) fn)) : FnGood B P w mg base (k + 1) x ps.length (mD (runD ps.length N.length fn)) :=
  ⟨f, fd, ps, ok_D F S hbody, hm, F.kp, hb, rfl⟩
theorem refAt0_eq {ρ : Rho} {l : List D} (h : refAt0 ρ = some l) : ρ[0]? = some (some (.ref l)) := by
  unfold refAt0 refC at h
  split at h
  · rename_i m e; cases h; exact e
  · cases h
theorem ok_RC {x qual : Str} {st : Stmt} {f : Addr} {fd : FuncData} {N ps : List Str} {k : Nat} {fn : Rho → OS} (F : Fun B.K x qual st f fd) (S : FnScope N ps (defScope st))
    (hbody : ∀ (cdv : Value), CodeAt B.K x qual st f fd cdv → ∀ (A : Around) (outer : List Env) (s : Shared) (H : Hp) (E : XK), Room k (A.deeper (envOfC qual (defScope st) s.heap.objs.size f cdv)) →
      PSs (cxOf (L2N.CX P w) P w B.K mg base N qual (defScope st) f cdv A outer s H E) (defBody st) (tSt B (wishOf E) fn)) : FnOk P w B.K mg base (L2N.CX P w) (k + 1) f fd ps (spOf B (mR (runR ps.length N.length fn))) := by
  have hps : ps.length ≤ N.length := by have := congrArg List.length S.pre; rw [List.length_take] at this; omega
  have sel : ∀ {cs : List C}, mR (runR ps.length N.length fn) cs ≠ .no → ∃ (l : List D) (ds : List D), cs = .ref l :: ds.map C.dat ∧ ds.length + 1 = ps.length := fun {cs} h => by
    unfold mR at h
    split at h
    · rename_i l r
      cases e : datsOf r with
      | none => rw [e] at h; exact absurd rfl h
      | some ds =>
        rw [e] at h
        refine ⟨l, ds, by rw [datsOf_eq e], ?_⟩
        dsimp only at h
        unfold runR at h
        by_cases q : ds.length + 1 = ps.length
        · exact q
        · rw [if_neg q] at h; exact absurd rfl h
    · exact absurd rfl h
  refine okN F S (fun vs H Q E h => ?_) (fun cdv hcd A outer s H vs Q E hr h => ?_)
  · obtain ⟨G, cs, no, nk, E0, h⟩ := h
    have hne : mR (runR ps.length N.length fn) cs ≠ .no := fun z => by rw [z] at h; exact h
    obtain ⟨l, ds, rfl, hl⟩ := sel hne
    have := E0.len
    unfold argsR argsS at this
    rw [List.length_map, List.length_map, List.length_cons, List.length_map] at this
    omega
  · obtain ⟨G, cs, no, nk, E0, h⟩ := h
    have hne : mR (runR ps.length N.length fn) cs ≠ .no := fun z => by rw [z] at h; exact h
    obtain ⟨l, ds, rfl, hl⟩ := sel hne
    refine ⟨_, hbody cdv hcd A outer s H E hr, ?_⟩
    have hcl : (C.ref l :: ds.map C.dat).length ≤ N.length := by rw [List.length_cons, List.length_map]; omega
    refine ⟨_, _, G, E0.widen hcl, ?_⟩
    have nar : ∀ {ρ' σ' H' G' l'}, EnvOk B (Rf.reb (start0 N.length (.ref l :: ds.map C.dat)) (L2.start N vs) H G) ρ' σ' H' G' → ρ'[0]? = some (some (.ref l')) → EnvOk B (Rf.reb (argsR (.ref l :: ds.map C.dat)) (argsS vs) H G) (argsR (.ref l' :: ds.map C.dat)) (argsS vs) H' G' := fun {ρ' σ' H' G' l'} E1 hρ => by
      refine E0.narrow no hcl E1 (by simp) (fun i d h => ?_) (fun i m h => ?_) (fun i m h => ?_) (fun i m h => ?_) (fun i k m h => ?_) (fun i m h => ?_) (fun i m h => ?_)
      · cases i with
        | zero => cases h
        | succ i => exact h
      · cases i with
        | zero => cases h
        | succ i => exact (datsNo (ds := ds)).2 i m h
      · cases i with
        | zero => cases h
        | succ i => exact datsK (ds := ds) i m h
      · cases i with
        | zero => cases h
        | succ i => exact h
      · cases i with
        | zero => cases h
        | succ i => exact h
      · cases i with
        | zero => cases h; exact ⟨⟨l, rfl⟩, hρ⟩
        | succ i => exact absurd (show (ds.map C.dat)[i]? = some _ from h) ((datsNo (ds := ds)).1 i m)
      · cases i with
        | zero => exact ⟨l', rfl⟩
        | succ i => exact absurd (show (ds.map C.dat)[i]? = some _ from h) ((datsNo (ds := ds)).1 i m)
    unfold mR at h
    dsimp only at h
    rw [datsOf_dats] at h
    dsimp only at h
    unfold runR at h
    rw [if_pos hl] at h
    cases ef : fn (start0 N.length (.ref l :: ds.map C.dat)) with
    | nx ρ' =>
      rw [ef] at h
      dsimp only at h
      cases er : refAt0 ρ' with
      | none => rw [er] at h; exact False.elim h
      | some l' =>
        rw [er] at h
        exact fun σ' H' G' E1 _ => h .non H' G' (nar E1 (refAt0_eq er)) .non
    | ret d ρ' =>
      rw [ef] at h
      dsimp only at h
      cases er : refAt0 ρ' with
      | none => rw [er] at h; exact False.elim h
      | some l' =>
        rw [er] at h
        exact fun σ' H' G' E1 _ v hv => h v H' G' (nar E1 (refAt0_eq er)) hv
    | retO l2 ρ' => rw [ef] at h; exact h.elim
    | retK l2 ρ' => rw [ef] at h; exact h.elim
    | retV k l2 ρ' => rw [ef] at h; exact h.elim
    | ex e ρ' =>
      rw [ef] at h
      dsimp only at h
      cases er : refAt0 ρ' with
      | none => rw [er] at h; exact False.elim h
      | some l' =>
        rw [er] at h
        exact fun cls a σ' H' G' E1 _ ex => h cls a H' G' (nar E1 (refAt0_eq er)) ex
    | no => rw [ef] at h; exact h
/-- another function that says the same where it says anything -/
theorem FnGood.imp {lv n : Nat} {x : Str} {f g : FSem} (F : FnGood B P w mg base lv x n f) (h : ∀ cs, g cs ≠ .no → f cs = g cs) : FnGood B P w mg base lv x n g := by
  obtain ⟨fa, fd, ps, h1, h2, h3, h4, h5⟩ := F.ex
  refine ⟨fa, fd, ps, h1.imp fun vs H Q E q => ?_, h2, h3, h4, h5⟩
  obtain ⟨G, cs, no, nk, E0, q⟩ := q
  refine ⟨G, cs, no, nk, E0, ?_⟩
  rw [h cs (fun z => by rw [z] at q; exact q)]
  exact q
theorem FnGood.impD {lv n : Nat} {x : Str} {f g : List D → FD} (F : FnGood B P w mg base lv x n (mD f)) (h : ∀ ds, g ds ≠ .no → f ds = g ds) : FnGood B P w mg base lv x n (mD g) := F.imp fun cs hg => by
  unfold mD at hg ⊢
  cases e : datsOf cs with
  | none => rfl
  | some ds =>
    rw [e] at hg
    dsimp only at hg ⊢
    rw [h ds (fun z => by rw [z] at hg; exact hg rfl)]
theorem FnGood.impR {lv n : Nat} {x : Str} {f g : List D → List D → FL} (F : FnGood B P w mg base lv x n (mR f)) (h : ∀ l ds, g l ds ≠ .no → f l ds = g l ds) : FnGood B P w mg base lv x n (mR g) := F.imp fun cs hg => by
  unfold mR at hg ⊢
  split
  · rename_i l r
    dsimp only at hg
    cases e : datsOf r with
    | none => rfl
    | some ds =>
      rw [e] at hg
      dsimp only at hg ⊢
      rw [h l ds (fun z => by rw [z] at hg; exact hg rfl)]
  · rfl
/-- calls of such defs -/
theorem sCallD_mD {f : List D → FD} {fa : Rho → O (List D)} {ρ : Rho} : sCallD (mD f) fa ρ = (fa ρ).bind fun ds ρ1 => match f ds with
    | .ret d => .ok d ρ1
    | .retO l => .ok (.list l) ρ1
    | .retK _ => .no
    | .retV _ _ => .no
    | .exc e => .ex e ρ1
    | .no => .no := by
  unfold sCallD mD
  congr 1
  funext ds ρ1
  rw [datsOf_dats]
  dsimp only
  cases f ds <;> rfl
theorem sCallR_mR {f : List D → List D → FL} {i : Nat} {fa : Rho → O (List D)} {ρ : Rho} : sCallR (mR f) i fa ρ = match heldAt ρ i with
    | none => .no
    | some _ => (fa ρ).bind fun ds ρ1 => match heldAt ρ1 i with
      | none => .no
      | some l => match f l ds with
        | .ret d l' => .ok d (setL ρ1 i l')
        | .exc e l' => .ex e (setL ρ1 i l')
        | .no => .no := by
  unfold sCallR mR
  cases heldAt ρ i with
  | none => rfl
  | some l0 =>
    dsimp only
    congr 1
    funext ds ρ1
    cases heldAt ρ1 i with
    | none => rfl
    | some l =>
      dsimp only
      rw [datsOf_dats]
      dsimp only
      cases f l ds <;> rfl
theorem good_R {x qual : Str} {st : Stmt} {f : Addr} {fd : FuncData} {N ps : List Str} {k : Nat} {fn : Rho → OS} (F : Fun B.K x qual st f fd) (S : FnScope N ps (defScope st)) (hb : Binds B.K fd ps []) (hm : mg x = some (.ref f))
    (hbody : ∀ (cdv : Value) (A : Around) (outer : List Env) (s : Shared) (H : Hp) (E : XK), Room k (A.deeper (envOfC qual (defScope st) s.heap.objs.size f cdv)) →
      PSs (cxOf (L2N.CX P w) P w B.K mg base N qual (defScope st) f cdv A outer s H E) (defBody st) (tSt B (wishOf E) fn)) : FnGood B P w mg base (k + 1) x ps.length (mR (runR ps.length N.length fn)) :=
  ⟨f, fd, ps, ok_RC F S (fun cdv _ => hbody cdv), hm, F.kp, hb, rfl⟩
end
end
end Rf

set_option maxRecDepth 100000
set_option maxHeartbeats 4000000
namespace Rf
open PySem PySem.Spec PyProof.Rows L2
section
variable {X : Cx} {B : Bs} {Wx : WX} {S : Sit} {ρ : Rho} {σ : St} {H G : Hp}
/-- the turns of a comprehension's clause, the list at D being filled -/
theorem lc_loop {t : Tg} {vs : List Nat} {fc fe : Rho → O D} {xs zs : List D} {J : It} {G1 : Hp} {D : Addr} {ρ0 ρe : Rho} {acc0 : List V} {accd0 : List Rf.D} {Qd : Hp → Prop} (ht : ∀ i ∈ t.slots, i ∈ vs) (FJ : Feeds B J G1 xs)
    (E0 : EnvOk B S ρ0 (L2.wipe σ vs) H G1) (hD : H D = some (.lst acc0)) (gD : G1 D = none) (wD : S.W D) (lo : Loose ρ0 (L2.wipe σ vs) D) (dp : DpAll B.K G1 acc0 accd0) (eg : lcGo t vs fc fe xs ρ0 = .ok zs ρe) (cl0 : ∀ j : Nat, j ∈ vs → ∀ c, ρ0[j]? ≠ some (some c)) (hz : accd0.length + zs.length ≤ sizeLine)
    (fin : ∀ H' G' acc, EnvOk B S ρe (L2.wipe σ vs) H' G' → H' D = some (.lst acc) → G' D = none → Loose ρe (L2.wipe σ vs) D → Le G1 G' → DpAll B.K G' acc (accd0 ++ zs) → (∀ j : Nat, j ∈ vs → ∀ c, ρe[j]? ≠ some (some c)) → Qd H') (Wy Wz : WX) :
    ∃ W : Nat → Nat → Hp → Prop, (∃ m, W 0 m H) ∧ ∀ i m H, W i m H → (J.stop i H ∧ Qd H) ∨ (J.go i H ∧ ∃ Nx : Hp → Prop, (∀ H', Nx H' → ∃ m', m' < m ∧ W (i + 1) m' H') ∧ ∀ x H', J.yld i H x H' → tTg B t x (L2.wipe σ vs) H' fun σ2 H2 => L2.wipe σ2 vs = L2.wipe σ vs ∧ tEt B Wy fc σ2 H2 fun b H3 =>
      if b = true then tEv B Wz fe σ2 H3 fun y H4 => ∃ acc, H4 D = some (.lst acc) ∧ acc.length < sizeLine ∧ Nx (upd H4 D (.lst (acc ++ [y]))) else Nx H3) := by
  refine ⟨fun i m H => m = xs.length - i ∧ i ≤ xs.length ∧ ∃ ρi Gi acc accd rest, EnvOk B S ρi (L2.wipe σ vs) H Gi ∧ H D = some (.lst acc) ∧ Gi D = none ∧ Loose ρi (L2.wipe σ vs) D ∧ Le G1 Gi ∧ DpAll B.K Gi acc accd ∧
    lcGo t vs fc fe (xs.drop i) ρi = .ok rest ρe ∧ accd ++ rest = accd0 ++ zs ∧ (∀ j : Nat, j ∈ vs → ∀ c, ρi[j]? ≠ some (some c)), ⟨xs.length, by simp, Nat.zero_le _, ρ0, G1, acc0, accd0, zs, E0, hD, gD, lo, Le.refl, dp, eg, rfl, cl0⟩, ?_⟩
  rintro i m Hi ⟨rfl, hi, ρi, Gi, acc, accd, rest, Ei, hDi, gDi, loi, lei, dpi, gi, ei, cli⟩
  obtain ⟨fgo, fstop⟩ := FJ S ρi (L2.wipe σ vs) Hi Gi Ei lei
  by_cases hlt : i < xs.length
  · refine .inr ?_
    obtain ⟨x, hx⟩ : ∃ x, xs[i]? = some x := ⟨xs[i], by simp [hlt]⟩
    have hdrop : xs.drop i = x :: xs.drop (i + 1) := by
      rw [List.drop_eq_getElem_cons hlt]
      have : xs[i] = x := by
        have := List.getElem?_eq_getElem hlt
        rw [this] at hx; exact Option.some.inj hx
      rw [this]
    refine ⟨(fgo i x hx).1, ?_⟩
    let S' := Rf.reb ρi (L2.wipe σ vs) Hi Gi
    have Er := Ei.reb
    obtain ⟨rgo, _⟩ := FJ S' ρi (L2.wipe σ vs) Hi Gi Er lei
    have nt : ∀ ps, (HO.lst acc) ≠ .tbl ps := fun ps z => by cases z
    rw [hdrop] at gi
    unfold lcGo at gi
    refine ⟨fun H' => (xs.length - (i + 1)) = xs.length - (i + 1) ∧ i + 1 ≤ xs.length ∧ ∃ ρi Gi acc accd rest, EnvOk B S ρi (L2.wipe σ vs) H' Gi ∧ H' D = some (.lst acc) ∧ Gi D = none ∧ Loose ρi (L2.wipe σ vs) D ∧ Le G1 Gi ∧ DpAll B.K Gi acc accd ∧
      lcGo t vs fc fe (xs.drop (i + 1)) ρi = .ok rest ρe ∧ accd ++ rest = accd0 ++ zs ∧ (∀ j : Nat, j ∈ vs → ∀ c, ρi[j]? ≠ some (some c)), fun H' w => ⟨_, by omega, w⟩, fun xv H' hy => ?_⟩
    obtain ⟨G2, E2, le2, dp2⟩ := (rgo i x hx).2 xv H' hy
    cases eb : bindT t x ρi with
    | none => rw [eb] at gi; cases gi
    | some ρ3 =>
      rw [eb] at gi
      refine ⟨S', ρi, G2, x, ρ3, E2, dp2, eb, fun σ3 E3 off => ?_⟩
      have hw : L2.wipe σ3 vs = L2.wipe (L2.wipe σ vs) vs := wipe_ext off.1 fun j hj => off.2 j fun m => hj (ht j m)
      have hww : L2.wipe (L2.wipe σ vs) vs = L2.wipe σ vs := wipe_ext (wipe_length σ vs) fun j hj => wipe_out hj
      have hw : L2.wipe σ3 vs = L2.wipe σ vs := hw.trans hww
      refine ⟨hw, S', ρ3, G2, E3, ?_⟩
      have back : ∀ ρ4 H4 G4, EnvOk B S' ρ4 σ3 H4 G4 → Le G2 G4 → EnvOk B S (wipeR ρ4 vs) (L2.wipe σ vs) H4 G4 ∧ H4 D = some (.lst acc) ∧ G4 D = none ∧ Loose (wipeR ρ4 vs) (L2.wipe σ vs) D ∧ Le G1 G4 ∧ DpAll B.K G4 acc accd := fun ρ4 H4 G4 E4 le4 => by
        obtain ⟨k1, k2⟩ := E4.reb_keep hDi nt gDi loi (Ei.nodct hDi)
        have lo4 := E4.reb_loose hDi loi (Ei.nodct hDi)
        have Eu := Ei.unreb E4
        have nr4 : ∀ i : Nat, i ∈ vs → ∀ l, ρ4[i]? ≠ some (some (.ref l)) := fun i hi l z => by
          obtain ⟨l0, h0⟩ := E4.noref z
          exact cli i hi _ h0
        have Ew := Eu.wipe nr4
        rw [hw] at Ew
        refine ⟨Ew, k1, k2, fun j l h z => ?_, lei.trans (le2.trans le4), DpAll.up (le2.trans le4) dpi⟩
        have z' := z
        rw [← hw] at z'
        obtain ⟨h1, h2⟩ := wipe_some z'
        have h' : Hd ρ4 j l := by
          rcases h with h | h
          · rw [wipeR_out h2] at h; exact .inl h
          · rw [wipeR_out h2] at h; exact .inr h
        exact lo4 j l h' h1
      dsimp only at gi
      cases ec : fc ρ3 with
      | no => rw [ec] at gi; cases gi
      | ex e ρ4 => rw [ec] at gi; cases gi
      | ok c ρ4 =>
        rw [ec] at gi
        intro H4 G4 E4 le4
        cases c with
        | bool b =>
          cases b with
          | false =>
            refine ⟨false, rfl, ifF ?_⟩
            obtain ⟨k1, k2, k3, k4, k5, k6⟩ := back ρ4 H4 G4 E4 le4
            exact ⟨rfl, hlt, wipeR ρ4 vs, G4, acc, accd, rest, k1, k2, k3, k4, k5, k6, gi, ei, fun j hj => wipeR_clean hj⟩
          | true =>
            refine ⟨true, rfl, ifT ⟨S', ρ4, G4, E4, ?_⟩⟩
            dsimp only at gi
            cases ee : fe ρ4 with
            | no => rw [ee] at gi; cases gi
            | ex e ρ5 => rw [ee] at gi; cases gi
            | ok y ρ5 =>
              rw [ee] at gi
              intro H5 G5 E5 le5 v hv
              dsimp only at gi
              cases er : lcGo t vs fc fe (xs.drop (i + 1)) (wipeR ρ5 vs) with
              | no => rw [er] at gi; cases gi
              | ex e ρ6 => rw [er] at gi; cases gi
              | ok us ρ6 =>
                rw [er] at gi
                cases gi
                obtain ⟨k1, k2, k3, k4, k5, k6⟩ := back ρ5 H5 G5 E5 (le4.trans le5)
                have hl : acc.length < sizeLine := by
                  have e := congrArg List.length ei
                  rw [List.length_append, List.length_append, List.length_cons] at e
                  rw [dpi.length]; omega
                refine ⟨acc, k2, hl, rfl, hlt, wipeR ρ5 vs, G5, acc ++ [v], accd ++ [y], us, k1.upl k2 k3 wD k4, upd_same, k3, k4, k5, k6.append (.cons hv .nil), er, by rw [← ei]; simp, fun j hj => wipeR_clean hj⟩
        | _ => cases gi
  · have e : i = xs.length := by omega
    subst e
    refine .inl ⟨fstop, ?_⟩
    rw [List.drop_length] at gi
    unfold lcGo at gi
    cases gi
    rw [List.append_nil] at ei
    subst ei
    exact fin Hi Gi acc Ei hDi gDi loi lei dpi cli
/-- two clauses -/
def lc2Go (t : Tg) (vs : List Nat) (fc : Rho → O D) (fi1 : Rho → O (List D)) (t1 : Tg) (vs1 : List Nat) (fc1 fe : Rho → O D) : List D → Rho → O (List D)
  | [], ρ => .ok [] ρ
  | x :: xs, ρ => match bindT t x ρ with
    | none => .no
    | some ρ1 => match fc ρ1 with
      | .ok (.bool true) ρ2 => match fi1 ρ2 with
        | .ok ys ρ3 => if notHeld ρ3 vs1 then match lcGo t1 vs1 fc1 fe ys (wipeR ρ3 vs1) with
          | .ok zs ρ4 => match lc2Go t vs fc fi1 t1 vs1 fc1 fe xs (wipeR ρ4 vs) with
            | .ok us ρ5 => .ok (zs ++ us) ρ5
            | _ => .no
          | _ => .no
          else .no
        | _ => .no
      | .ok (.bool false) ρ2 => lc2Go t vs fc fi1 t1 vs1 fc1 fe xs (wipeR ρ2 vs)
      | _ => .no
def sLc2 (t : Tg) (vs : List Nat) (fi : Rho → O (List D)) (fc : Rho → O D) (fi1 : Rho → O (List D)) (t1 : Tg) (vs1 : List Nat) (fc1 fe : Rho → O D) : Rho → O (List D) := fun ρ => (fi ρ).bind fun xs ρ1 =>
  if notHeld ρ1 vs then match lc2Go t vs fc fi1 t1 vs1 fc1 fe xs (wipeR ρ1 vs) with
    | .ok ys ρ2 => if ys.length ≤ 16777216 then .ok ys (restR ρ1 ρ2 vs) else .no
    | _ => .no
  else .no
theorem loose_wipe {ρ : Rho} {σ : St} {vs : List Nat} {p : Addr} (h : Loose ρ σ p) : Loose (wipeR ρ vs) (L2.wipe σ vs) p := fun i l hd z => by
  obtain ⟨h1, h2⟩ := wipe_some z
  have h' : Hd ρ i l := by
    rcases hd with hd | hd
    · rw [wipeR_out h2] at hd; exact .inl hd
    · rw [wipeR_out h2] at hd; exact .inr hd
  exact h i l h' h1
theorem notHeld_noref {ρ : Rho} {vs : List Nat} (n : notHeld ρ vs = true) : ∀ i : Nat, i ∈ vs → ∀ l, ρ[i]? ≠ some (some (.ref l)) := fun i hi l z => by
  have q := List.all_eq_true.mp n i hi
  rw [z] at q; cases q
theorem loose_rest {ρ1 ρ2 : Rho} {σ : St} {vs : List Nat} {p : Addr} (n : notHeld ρ1 vs = true) (h : Loose ρ2 (L2.wipe σ vs) p) : Loose (restR ρ1 ρ2 vs) σ p := fun j l hd z => by
  by_cases m : j ∈ vs
  · have hlt : j < ρ2.length := by
      rcases hd with h | h
      · have := (List.getElem?_eq_some_iff.mp h).1; rw [restR_length] at this; exact this
      · have := (List.getElem?_eq_some_iff.mp h).1; rw [restR_length] at this; exact this
    have q := List.all_eq_true.mp n j m
    cases e : ρ1[j]? with
    | none => rw [e] at q; cases q
    | some x =>
      rw [e] at q
      cases x with
      | none =>
        rcases hd with h | h
        · rw [restR_in hlt m, e] at h; cases h
        · rw [restR_in hlt m, e] at h; cases h
      | some c => cases c with
        | dat d =>
          rcases hd with h | h
          · rw [restR_in hlt m, e] at h; cases h
          · rw [restR_in hlt m, e] at h; cases h
        | own l => cases q
        | ref l => cases q
        | dct l => cases q
        | raw l => cases q
        | rel k l => cases q
  · have h' : Hd ρ2 j l := by
      rcases hd with h | h
      · rw [restR_out m] at h; exact .inl h
      · rw [restR_out m] at h; exact .inr h
    exact h j l h' (by rw [wipe_out m]; exact z)
theorem lc2_read {t t1 : Tg} {vs vs1 : List Nat} {fi fi1 : Rho → O (List D)} {fc fc1 fe : Rho → O D} {Q : VK} (ht : ∀ i ∈ t.slots, i ∈ vs) (ht1 : ∀ i ∈ t1.slots, i ∈ vs1) (hvs : ∀ i ∈ vs1, i ∈ vs) (h : tEo B Wx (sLc2 t vs fi fc fi1 t1 vs1 fc1 fe) σ H Q) (Wy Wi Wy1 Wz : WX) :
    tLc2 (tIt B Wx fi) (tTg B t) (tEt B Wy fc) (tIt B Wi fi1) (tTg B t1) (tEt B Wy1 fc1) (tEv B Wz fe) vs vs1 σ H Q := by
  obtain ⟨S, ρ, G, E, P⟩ := h
  refine ⟨S, ρ, G, E, P.bind.imp fun xs ρ1 H1 G1 E1 le1 P1 hxs J FJ D hD => ?_⟩
  split at P1
  · rename_i nh
    cases eg : lc2Go t vs fc fi1 t1 vs1 fc1 fe xs (wipeR ρ1 vs) with
    | no => rw [eg] at P1; exact False.elim P1
    | ex e ρ2 => rw [eg] at P1; exact False.elim P1
    | ok ys ρ2 =>
      rw [eg] at P1
      dsimp only at P1
      split at P1
      · rename_i hys
        have nr1 := notHeld_noref nh
        obtain ⟨F1, F2, F3, F4, F5⟩ := E1.newl (vs := []) hD
        have wD : S.W D := S.wn D (E1.there D hD)
        refine ⟨fun i m H => m = xs.length - i ∧ i ≤ xs.length ∧ ∃ ρi Gi acc accd rest, EnvOk B S ρi (L2.wipe σ vs) H Gi ∧ H D = some (.lst acc) ∧ Gi D = none ∧ Loose ρi (L2.wipe σ vs) D ∧ Le G1 Gi ∧ DpAll B.K Gi acc accd ∧
          lc2Go t vs fc fi1 t1 vs1 fc1 fe (xs.drop i) ρi = .ok rest ρ2 ∧ accd ++ rest = ys ∧ (∀ j : Nat, j ∈ vs → ∀ c, ρi[j]? ≠ some (some c)), ⟨xs.length, by simp, Nat.zero_le _, wipeR ρ1 vs, G1, [], [], ys, F1.wipe nr1, F2, F3, loose_wipe F5, Le.refl, .nil, eg, rfl, fun j hj => wipeR_clean hj⟩, ?_⟩
        rintro i m Hi ⟨rfl, hi, ρi, Gi, acc, accd, rest, Ei, hDi, gDi, loi, lei, dpi, gi, ei, cli⟩
        obtain ⟨fgo, fstop⟩ := FJ S ρi (L2.wipe σ vs) Hi Gi Ei lei
        by_cases hlt : i < xs.length
        · refine .inr ?_
          obtain ⟨x, hx⟩ : ∃ x, xs[i]? = some x := ⟨xs[i], by simp [hlt]⟩
          have hdrop : xs.drop i = x :: xs.drop (i + 1) := by
            rw [List.drop_eq_getElem_cons hlt]
            have : xs[i] = x := by
              have := List.getElem?_eq_getElem hlt
              rw [this] at hx; exact Option.some.inj hx
            rw [this]
          refine ⟨(fgo i x hx).1, ?_⟩
          let S' := Rf.reb ρi (L2.wipe σ vs) Hi Gi
          have Er := Ei.reb
          obtain ⟨rgo, _⟩ := FJ S' ρi (L2.wipe σ vs) Hi Gi Er lei
          have nt : ∀ ps, (HO.lst acc) ≠ .tbl ps := fun ps z => by cases z
          rw [hdrop] at gi
          unfold lc2Go at gi
          refine ⟨fun H' => (xs.length - (i + 1)) = xs.length - (i + 1) ∧ i + 1 ≤ xs.length ∧ ∃ ρi Gi acc accd rest, EnvOk B S ρi (L2.wipe σ vs) H' Gi ∧ H' D = some (.lst acc) ∧ Gi D = none ∧ Loose ρi (L2.wipe σ vs) D ∧ Le G1 Gi ∧ DpAll B.K Gi acc accd ∧
            lc2Go t vs fc fi1 t1 vs1 fc1 fe (xs.drop (i + 1)) ρi = .ok rest ρ2 ∧ accd ++ rest = ys ∧ (∀ j : Nat, j ∈ vs → ∀ c, ρi[j]? ≠ some (some c)), fun H' w => ⟨_, by omega, w⟩, fun xv H' hy => ?_⟩
          obtain ⟨G2, E2, le2, dp2⟩ := (rgo i x hx).2 xv H' hy
          cases eb : bindT t x ρi with
          | none => rw [eb] at gi; cases gi
          | some ρ3 =>
            rw [eb] at gi
            refine ⟨S', ρi, G2, x, ρ3, E2, dp2, eb, fun σ3 E3 off => ?_⟩
            have hw : L2.wipe σ3 vs = L2.wipe (L2.wipe σ vs) vs := wipe_ext off.1 fun j hj => off.2 j fun m => hj (ht j m)
            have hww : L2.wipe (L2.wipe σ vs) vs = L2.wipe σ vs := wipe_ext (wipe_length σ vs) fun j hj => wipe_out hj
            have hw : L2.wipe σ3 vs = L2.wipe σ vs := hw.trans hww
            refine ⟨hw, S', ρ3, G2, E3, ?_⟩
            have back : ∀ ρ4 H4 G4, EnvOk B S' ρ4 σ3 H4 G4 → Le G2 G4 → EnvOk B S ρ4 σ3 H4 G4 ∧ H4 D = some (.lst acc) ∧ G4 D = none ∧ Loose ρ4 σ3 D ∧ Le G1 G4 ∧ DpAll B.K G4 acc accd := fun ρ4 H4 G4 E4 le4 => by
              obtain ⟨k1, k2⟩ := E4.reb_keep hDi nt gDi loi (Ei.nodct hDi)
              exact ⟨Ei.unreb E4, k1, k2, E4.reb_loose hDi loi (Ei.nodct hDi), lei.trans (le2.trans le4), DpAll.up (le2.trans le4) dpi⟩
            have norefs : ∀ {ρ4 H4 G4}, EnvOk B S' ρ4 σ3 H4 G4 → ∀ i : Nat, i ∈ vs → ∀ l, ρ4[i]? ≠ some (some (.ref l)) := fun E4 i hi l z => by
              obtain ⟨l0, h0⟩ := E4.noref z
              exact cli i hi _ h0
            dsimp only at gi
            cases ec : fc ρ3 with
            | no => rw [ec] at gi; cases gi
            | ex e ρ4 => rw [ec] at gi; cases gi
            | ok c ρ4 =>
              rw [ec] at gi
              intro H4 G4 E4 le4
              cases c with
              | bool b =>
                cases b with
                | false =>
                  refine ⟨false, rfl, ifF ?_⟩
                  obtain ⟨k1, k2, k3, k4, k5, k6⟩ := back ρ4 H4 G4 E4 le4
                  have kw := k1.wipe (norefs E4)
                  have kl := loose_wipe (vs := vs) k4
                  rw [hw] at kw kl
                  exact ⟨rfl, hlt, wipeR ρ4 vs, G4, acc, accd, rest, kw, k2, k3, kl, k5, k6, gi, ei, fun j hj => wipeR_clean hj⟩
                | true =>
                  refine ⟨true, rfl, ifT ⟨S', ρ4, G4, E4, ?_⟩⟩
                  dsimp only at gi
                  cases ee : fi1 ρ4 with
                  | no => rw [ee] at gi; cases gi
                  | ex e ρ5 => rw [ee] at gi; cases gi
                  | ok us ρ5 =>
                    rw [ee] at gi
                    intro H5 G5 E5 le5 hus J1 FJ1
                    dsimp only at gi
                    split at gi
                    · rename_i nh1
                      cases e1 : lcGo t1 vs1 fc1 fe us (wipeR ρ5 vs1) with
                      | no => rw [e1] at gi; cases gi
                      | ex e ρ6 => rw [e1] at gi; cases gi
                      | ok zs ρ6 =>
                        rw [e1] at gi
                        dsimp only at gi
                        cases e2 : lc2Go t vs fc fi1 t1 vs1 fc1 fe (xs.drop (i + 1)) (wipeR ρ6 vs) with
                        | no => rw [e2] at gi; cases gi
                        | ex e ρ7 => rw [e2] at gi; cases gi
                        | ok rs ρ7 =>
                          rw [e2] at gi
                          cases gi
                          obtain ⟨k1, k2, k3, k4, k5, k6⟩ := back ρ5 H5 G5 E5 (le4.trans le5)
                          have hsz : accd.length + zs.length ≤ sizeLine := by
                            have e := congrArg List.length ei
                            rw [List.length_append, List.length_append] at e
                            rw [line_eq]; omega
                          have hw1 : ∀ {τ : St}, L2.wipe (L2.wipe τ vs1) vs = L2.wipe τ vs := fun {τ} => wipe_ext (wipe_length τ vs1) fun j hj => wipe_out fun m => hj (hvs j m)
                          refine lc_loop ht1 FJ1 (k1.wipe (notHeld_noref nh1)) k2 k3 wD (loose_wipe k4) k6 e1 (fun j hj => wipeR_clean hj) hsz (fun H' G' acc' E' h1 h2 h3 h4 h5 h6 => ?_) Wy1 Wz
                          have nr6 : ∀ i : Nat, i ∈ vs → ∀ l, ρ6[i]? ≠ some (some (.ref l)) := fun i hi l z => by
                            obtain ⟨l0, h0⟩ := E'.noref z
                            obtain ⟨l1, h1⟩ := Ei.isref i l0 h0
                            exact cli i hi _ h1
                          have Ew := E'.wipe nr6
                          have kl := loose_wipe (vs := vs) h3
                          rw [hw1, hw] at Ew kl
                          exact ⟨rfl, hlt, wipeR ρ6 vs, G', acc', accd ++ zs, rs, Ew, h1, h2, kl, k5.trans h4, h5, e2, by rw [← ei, List.append_assoc], fun j hj => wipeR_clean hj⟩
                    · cases gi
              | _ => cases gi
        · have e : i = xs.length := by omega
          subst e
          refine .inl ⟨fstop, ?_⟩
          rw [List.drop_length] at gi
          unfold lc2Go at gi
          cases gi
          rw [List.append_nil] at ei
          subst ei
          have Ef := E1.rest nh Ei lei cli
          exact P1 Hi Gi Ef lei D acc hDi gDi wD (loose_rest nh loi) (by rw [dpi.length, line_eq]; exact hys) dpi
      · exact False.elim P1
  · exact False.elim P1

/-! ### comprehensions as expressions -/
abbrev wNo : WX := fun _ _ _ _ => False
def sYes : Rho → O D := fun ρ => .ok (.bool true) ρ
theorem rp_nil {B : Bs} {Wx : WX} {X : Cx} : PTs X [] (tEt B Wx sYes) := ⟨fun pins s σ H Q I ⟨S, ρ, G, E, P⟩ => pts_nil.run pins s σ H Q I (by
  obtain ⟨b, e, q⟩ := P H G E Le.refl
  cases e; exact q)⟩
theorem rp_one {B : Bs} {Wx : WX} {X : Cx} {c : Expr} {fc : Rho → O D} (h : PT X c (tEt B Wx fc)) : PTs X [c] (tEt B Wx fc) := pts_one h
theorem r_lc {elt tg iter : Expr} {ifs : List Expr} {scope : Scope} {own : List (Str × Nat)} {pos : Pos} {t : Tg} {fi : Rho → O (List D)} {fc fe : Rho → O D} (hc : X.calm = true) (hN : X.N.Nodup) (hi : PI X tg iter (tIt B Wx fi)) (ok : BlkOk X.N X.env.scope scope own) (ht : ∀ i ∈ t.slots, i ∈ own.map (·.2))
    (hg : ∀ (s : Shared) (H : Hp) (C : Addr) (cl : List (Str × Addr)) (fp : List Addr), PG (X.blk s H scope (compEnvC scope cl C X.env) fp) tg (tTg B t)) (hf : ∀ (s : Shared) (H : Hp) (C : Addr) (cl : List (Str × Addr)) (fp : List Addr), PTs (X.blk s H scope (compEnvC scope cl C X.env) fp) ifs (tEt B wNo fc))
    (he : ∀ (s : Shared) (H : Hp) (C : Addr) (cl : List (Str × Addr)) (fp : List Addr), PE (X.blk s H scope (compEnvC scope cl C X.env) fp) elt (tEv B wNo fe)) (hs : ∀ x, foldedSetIterable iter X.env x = pure x) :
    PE X (.ListComp elt [⟨tg, iter, ifs, 0⟩] scope pos) (tEo B Wx (sLc t (own.map (·.2)) fi fc fe)) :=
  (pe_lc hc hN hi ok hg hf he hs).imp' fun σ H Q h => lc_read ht h wNo wNo
theorem q_lc {i : Nat} {y : Str} {py : Pos} {elt tg iter : Expr} {ifs : List Expr} {scope : Scope} {own : List (Str × Nat)} {pos spos : Pos} {t : Tg} {fi : Rho → O (List D)} {fc fe : Rho → O D} (hc : X.calm = true) (hN : X.N.Nodup) (hy : X.N[i]? = some y) (hyl : X.env.scope.names.lookup y = some .local)
    (hsw : swapsWith (.ListComp elt [⟨tg, iter, ifs, 0⟩] scope pos) (some (.Name y py)) spos.line X.env = pure true) (hi : PI X tg iter (tIt B Wx fi)) (ok : BlkOk X.N X.env.scope scope own) (ht : ∀ i ∈ t.slots, i ∈ own.map (·.2))
    (hg : ∀ (s : Shared) (H : Hp) (C : Addr) (cl : List (Str × Addr)) (fp : List Addr), PG (X.blk s H scope (compEnvC scope cl C X.env) fp) tg (tTg B t)) (hf : ∀ (s : Shared) (H : Hp) (C : Addr) (cl : List (Str × Addr)) (fp : List Addr), PTs (X.blk s H scope (compEnvC scope cl C X.env) fp) ifs (tEt B wNo fc))
    (he : ∀ (s : Shared) (H : Hp) (C : Addr) (cl : List (Str × Addr)) (fp : List Addr), PE (X.blk s H scope (compEnvC scope cl C X.env) fp) elt (tEv B wNo fe)) (hs : ∀ x, foldedSetIterable iter X.env x = pure x) :
    PS X (.Assign [.Name y py] (.ListComp elt [⟨tg, iter, ifs, 0⟩] scope pos) spos) (tSt B Wx (sAsg (.nm i) fun ρ => (sLc t (own.map (·.2)) fi fc fe ρ).bind fun l ρ1 => .ok (.list l) ρ1)) :=
  (ps_setLc hc hN hy hyl hsw hi ok hg hf he hs).imp' fun D σ H h => tLc_asg wNo wNo ht h
theorem q_lcO {i : Nat} {y : Str} {py : Pos} {elt tg iter : Expr} {ifs : List Expr} {scope : Scope} {own : List (Str × Nat)} {pos spos : Pos} {t : Tg} {fi : Rho → O (List D)} {fc fe : Rho → O D} (hc : X.calm = true) (hN : X.N.Nodup) (hy : X.N[i]? = some y) (hyl : X.env.scope.names.lookup y = some .local)
    (hsw : swapsWith (.ListComp elt [⟨tg, iter, ifs, 0⟩] scope pos) (some (.Name y py)) spos.line X.env = pure true) (hi : PI X tg iter (tIt B Wx fi)) (ok : BlkOk X.N X.env.scope scope own) (ht : ∀ i ∈ t.slots, i ∈ own.map (·.2))
    (hg : ∀ (s : Shared) (H : Hp) (C : Addr) (cl : List (Str × Addr)) (fp : List Addr), PG (X.blk s H scope (compEnvC scope cl C X.env) fp) tg (tTg B t)) (hf : ∀ (s : Shared) (H : Hp) (C : Addr) (cl : List (Str × Addr)) (fp : List Addr), PTs (X.blk s H scope (compEnvC scope cl C X.env) fp) ifs (tEt B wNo fc))
    (he : ∀ (s : Shared) (H : Hp) (C : Addr) (cl : List (Str × Addr)) (fp : List Addr), PE (X.blk s H scope (compEnvC scope cl C X.env) fp) elt (tEv B wNo fe)) (hs : ∀ x, foldedSetIterable iter X.env x = pure x) :
    PS X (.Assign [.Name y py] (.ListComp elt [⟨tg, iter, ifs, 0⟩] scope pos) spos) (tSt B Wx (sAsgO i (sLc t (own.map (·.2)) fi fc fe))) :=
  (ps_setLc hc hN hy hyl hsw hi ok hg hf he hs).imp' fun D σ H h => tLc_asgO wNo wNo ht h
theorem r_lc2 {elt tg iter tg1 iter1 : Expr} {ifs ifs1 : List Expr} {scope : Scope} {own : List (Str × Nat)} {vs1 : List Nat} {pos : Pos} {t t1 : Tg} {fi fi1 : Rho → O (List D)} {fc fc1 fe : Rho → O D} (hc : X.calm = true) (hN : X.N.Nodup) (hi : PI X tg iter (tIt B Wx fi)) (ok : BlkOk X.N X.env.scope scope own) (hv : ∀ i ∈ vs1, i ∈ own.map (·.2)) (ht : ∀ i ∈ t.slots, i ∈ own.map (·.2)) (ht1 : ∀ i ∈ t1.slots, i ∈ vs1)
    (hg : ∀ (s : Shared) (H : Hp) (C : Addr) (cl : List (Str × Addr)) (fp : List Addr), PG (X.blk s H scope (compEnvC scope cl C X.env) fp) tg (tTg B t)) (hf : ∀ (s : Shared) (H : Hp) (C : Addr) (cl : List (Str × Addr)) (fp : List Addr), PTs (X.blk s H scope (compEnvC scope cl C X.env) fp) ifs (tEt B wNo fc))
    (hi1 : ∀ (s : Shared) (H : Hp) (C : Addr) (cl : List (Str × Addr)) (fp : List Addr), PI (X.blk s H scope (compEnvC scope cl C X.env) fp) tg1 iter1 (tIt B wNo fi1))
    (hg1 : ∀ (s : Shared) (H : Hp) (C : Addr) (cl : List (Str × Addr)) (fp : List Addr), PG (X.blk s H scope (compEnvC scope cl C X.env) fp) tg1 (tTg B t1)) (hf1 : ∀ (s : Shared) (H : Hp) (C : Addr) (cl : List (Str × Addr)) (fp : List Addr), PTs (X.blk s H scope (compEnvC scope cl C X.env) fp) ifs1 (tEt B wNo fc1))
    (he : ∀ (s : Shared) (H : Hp) (C : Addr) (cl : List (Str × Addr)) (fp : List Addr), PE (X.blk s H scope (compEnvC scope cl C X.env) fp) elt (tEv B wNo fe)) (hs : ∀ x, foldedSetIterable iter X.env x = pure x) (hs1 : ∀ env x, foldedSetIterable iter1 env x = pure x) :
    PE X (.ListComp elt [⟨tg, iter, ifs, 0⟩, ⟨tg1, iter1, ifs1, 0⟩] scope pos) (tEo B Wx (sLc2 t (own.map (·.2)) fi fc fi1 t1 vs1 fc1 fe)) :=
  (pe_lc2 hc hN hi ok hv hg hf hi1 hg1 hf1 he hs hs1).imp' fun σ H Q h => lc2_read ht ht1 hv h wNo wNo wNo wNo
theorem q_lc2 {i : Nat} {y : Str} {py : Pos} {elt tg iter tg1 iter1 : Expr} {ifs ifs1 : List Expr} {scope : Scope} {own : List (Str × Nat)} {vs1 : List Nat} {pos spos : Pos} {t t1 : Tg} {fi fi1 : Rho → O (List D)} {fc fc1 fe : Rho → O D} (hc : X.calm = true) (hN : X.N.Nodup) (hy : X.N[i]? = some y) (hyl : X.env.scope.names.lookup y = some .local)
    (hsw : swapsWith (.ListComp elt [⟨tg, iter, ifs, 0⟩, ⟨tg1, iter1, ifs1, 0⟩] scope pos) (some (.Name y py)) spos.line X.env = pure true) (hi : PI X tg iter (tIt B Wx fi)) (ok : BlkOk X.N X.env.scope scope own) (hv : ∀ i ∈ vs1, i ∈ own.map (·.2)) (ht : ∀ i ∈ t.slots, i ∈ own.map (·.2)) (ht1 : ∀ i ∈ t1.slots, i ∈ vs1)
    (hg : ∀ (s : Shared) (H : Hp) (C : Addr) (cl : List (Str × Addr)) (fp : List Addr), PG (X.blk s H scope (compEnvC scope cl C X.env) fp) tg (tTg B t)) (hf : ∀ (s : Shared) (H : Hp) (C : Addr) (cl : List (Str × Addr)) (fp : List Addr), PTs (X.blk s H scope (compEnvC scope cl C X.env) fp) ifs (tEt B wNo fc))
    (hi1 : ∀ (s : Shared) (H : Hp) (C : Addr) (cl : List (Str × Addr)) (fp : List Addr), PI (X.blk s H scope (compEnvC scope cl C X.env) fp) tg1 iter1 (tIt B wNo fi1))
    (hg1 : ∀ (s : Shared) (H : Hp) (C : Addr) (cl : List (Str × Addr)) (fp : List Addr), PG (X.blk s H scope (compEnvC scope cl C X.env) fp) tg1 (tTg B t1)) (hf1 : ∀ (s : Shared) (H : Hp) (C : Addr) (cl : List (Str × Addr)) (fp : List Addr), PTs (X.blk s H scope (compEnvC scope cl C X.env) fp) ifs1 (tEt B wNo fc1))
    (he : ∀ (s : Shared) (H : Hp) (C : Addr) (cl : List (Str × Addr)) (fp : List Addr), PE (X.blk s H scope (compEnvC scope cl C X.env) fp) elt (tEv B wNo fe)) (hs : ∀ x, foldedSetIterable iter X.env x = pure x) (hs1 : ∀ env x, foldedSetIterable iter1 env x = pure x) :
    PS X (.Assign [.Name y py] (.ListComp elt [⟨tg, iter, ifs, 0⟩, ⟨tg1, iter1, ifs1, 0⟩] scope pos) spos) (tSt B Wx (sAsg (.nm i) fun ρ => (sLc2 t (own.map (·.2)) fi fc fi1 t1 vs1 fc1 fe ρ).bind fun l ρ1 => .ok (.list l) ρ1)) :=
  (ps_setLc2 hc hN hy hyl hsw hi ok hv hg hf hi1 hg1 hf1 he hs hs1).imp' fun D σ H h => by
    obtain ⟨S, ρ, G, E, P⟩ := h
    refine lc2_read ht ht1 hv (Q := fun x H1 => gName i x σ H1 D.nx) ⟨S, ρ, G, E, ?_⟩ wNo wNo wNo wNo
    have P1 := (P.run (σ := σ)).bind
    refine P1.imp fun l ρ1 H1 G1 E1 le1 q p us h1 h2 h3 h4 h5 h6 => ?_
    have E2 := E1.freeze h1 h2 h3 h4 h5
    have q2 := q H1 (upd G1 p (.lst us)) E2 (Le.upd h2)
    dsimp only at q2
    cases e : bindT (.nm i) (.list l) ρ1 with
    | none => rw [e] at q2; exact False.elim q2
    | some ρ2 =>
      rw [e] at q2
      exact q2 _ H1 _ (E2.bindN e (.lst (SqL.of upd_same) (DpAll.up (Le.upd h2) h6))) Le.refl
end
end Rf

set_option maxRecDepth 100000
set_option maxHeartbeats 4000000
namespace Rf
open PySem PySem.Spec PyProof.Rows L2

/-! ### sorted: any number of tuples of ints -/
section
variable {prog : Program} {w : World} {A : Around} {E : Value → Shared → Prop} {s : Shared}
def ltC (B : Int) (h : Heap) (v u : Value) : Bool := decide (TS.code B (TS.intsOf h v) < TS.code B (TS.intsOf h u))
theorem ltC_swo (B : Int) (h : Heap) : SrtO.Swo (ltC B h) := by
  refine ⟨fun x y h => ?_, fun x y z h1 h2 => ?_⟩
  · have a := of_decide_eq_true h
    exact decide_eq_false (by omega)
  · have a := of_decide_eq_false h1
    have b := of_decide_eq_false h2
    exact decide_eq_false (by omega)
theorem tups_sortableO {a : Addr} {vs : List Value} {d : Nat} {B : Int} (hd : 1 ≤ d) (h2 : 2 ≤ vs.length) (x : TS.TupsOk s.heap d B vs) (ha : ∀ o, s.heap.get? a = some o → o.cls ≠ .type "tuple") : SrtO.SortableO prog w A s a vs (ltC B s.heap) := by
  intro h' keep
  have keep' : ∀ b o, s.heap.get? b = some o → o.cls = .type "tuple" → h'.get? b = some o := fun b o e c => keep b o (fun z => by subst z; exact ha o e c) e
  obtain ⟨fs, k, hl, hi⟩ := TS.firsts_of hd vs (x.keeps keep')
  refine ⟨tuples' true, fun Q E hq => ?_, fun p q hm hm' => ?_⟩
  · refine PySem.W.kat_kind (T := .type "int") k (by omega) (fun f hf => ?_) (by rfl) ?_
    · obtain ⟨n, t, rfl⟩ := hi f hf
      exact PySem.W.Looks.of_pure rfl
    · have e : (Value.type "int" != Value.type "tuple") = true := by first | decide +kernel | rfl | decide
      rw [e]
      exact hq
  · obtain ⟨ns, tp0, lp, bp⟩ := x _ hm
    obtain ⟨ms, tq0, lq, bq⟩ := x _ hm'
    have tp := tp0.keeps keep'
    have tq := tq0.keeps keep'
    have e0 : SrtO.lt2 (ltC B s.heap) p q = decide (TS.code B ns < TS.code B ms) := by
      show ltC B s.heap p.1 q.1 = _
      unfold ltC
      rw [tp0.ints, tq0.ints]
    rw [e0]
    obtain ⟨a1, xs, e1, ⟨o, ho, hc, n, hdt⟩, i⟩ := tp
    obtain ⟨a2, ys, e2, ⟨o', ho', hc', n', hdt'⟩, i'⟩ := tq
    rw [e1, e2]
    refine PySem.W.kat_lt (s := { s with heap := h' }) ho hdt ho' hdt' ?_
    have sz : decide (xs.size < ys.size) = false := by
      have l1 := i.length
      have l2 := i'.length
      rw [Array.length_toList] at l1 l2
      exact decide_eq_false (by omega)
    rw [sz]
    exact TS.lex_ints 0 i i' (by omega) bp bq ⟨rfl, rfl⟩
end
def rSortA (K : PySem.W.Frag) (d : Nat) (B : Int) : List V → Hp → VK → Prop := fun vs H Q => ∃ (a : Addr) (xs : List V), vs = [V.ref a] ∧ SqL K H a xs ∧ (∀ x ∈ xs, ∃ ns, TupI K H x ns ∧ ns.length = d ∧ TS.Bd B ns) ∧
  ∀ (ys : List V) (p : Addr), ys.Perm xs → ys.Pairwise (fun x y => ∀ n m, TupI K H x n → TupI K H y m → TS.code B n ≤ TS.code B m) → H p = none → Q (.ref p) (upd H p (.lst ys))
section
variable {X : Cx}
theorem cr_sortA {d : Nat} {B : Int} (hd : 1 ≤ d) : CallR X (.builtin "sorted") (rSortA X.K d B) := by
  intro pins s σ H vs us Q I r h
  obtain ⟨a, xs, rfl, hs, hx, q⟩ := h
  obtain ⟨its, rv, hl, hz⟩ := I.list hs
  rw [Vals.ref1 r]
  obtain ⟨e1, e2⟩ := bkV_refs rv fun x m => by
    obtain ⟨ns, ⟨t, e, _⟩, _⟩ := hx x m
    exact ⟨t, e⟩
  have hx' : TS.TupsOk s.heap d B its := fun v hv => by
    obtain ⟨t, rfl⟩ := e2 v hv
    have hm : V.ref t ∈ xs := by
      rw [e1]
      exact List.mem_map.mpr ⟨_, hv, rfl⟩
    obtain ⟨ns, ⟨t', e, ht⟩, hn, hb⟩ := hx _ hm
    cases e
    exact ⟨ns, tupI_raw I ht, hn, hb⟩
  refine SrtO.sorted_ord (ltC_swo B s.heap) hl.isList (by rw [← rv.length]; exact hz) (fun h2 h₁ a' ha kk => ?_) fun out h1 h2 => ?_
  · have e : ltC B s.heap = ltC B s.heap := rfl
    have key := tups_sortableO (prog := X.prog) (w := X.w) (A := X.A.in1.in1) (s := { s with heap := h₁ }) (a := a') (vs := its) (d := d) (B := B) hd h2 (hx'.keeps fun b o e _ => (kk b o e).2) fun o e => by
      have e' : some o = some (seqObj "list" its.toArray 0) := e.symm.trans ha
      cases e'
      intro c
      exact absurd (Value.type.inj c) (by decide)
    intro h' keep
    obtain ⟨κ, k1, k2⟩ := key h' keep
    refine ⟨κ, k1, fun p q hp hq => ?_⟩
    have := k2 p q hp hq
    have e3 : SrtO.lt2 (ltC B h₁) p q = SrtO.lt2 (ltC B s.heap) p q := by
      obtain ⟨ns, t1, _⟩ := hx' _ hp
      obtain ⟨ms, t2, _⟩ := hx' _ hq
      show ltC B h₁ p.1 q.1 = ltC B s.heap p.1 q.1
      unfold ltC
      rw [t1.ints, t2.ints, (t1.keeps fun b o e _ => (kk b o e).2).ints, (t2.keeps fun b o e _ => (kk b o e).2).ints]
    rw [← e3]
    exact this
  · obtain ⟨ep, he'⟩ := PyProof.Rows.sortedAll_at s.heap its out.toArray
    have h3 : ∀ u ∈ out, ∃ a, u = Value.ref a := fun u hu => e2 u (h2.perm.mem_iff.mp hu)
    have hp : (out.map bkV).Perm xs := by
      rw [e1]
      exact h2.perm.map bkV
    have hlen : (out.map bkV).length ≤ sizeLine := by
      rw [hp.length_eq]
      exact hz
    refine ⟨.ref _, upd H (s.heap.objs.size + 1) (.lst (out.map bkV)), I.laid (t' := s.toks) (fun _ _ => PyProof.Rows.sortedAll_old) (Nat.le_succ _) ⟨hlen, out, ep, bkV_vals h3, he'⟩, rfl, q _ _ hp ?_ (I.hok.fresh (Nat.le_succ _))⟩
    rw [List.pairwise_map]
    refine List.Pairwise.imp (fun {u v} huv n m hn hm => ?_) h1
    obtain ⟨t, et, ht⟩ := hn
    obtain ⟨t', et', ht'⟩ := hm
    have eu := bkV_ref et
    have ev := bkV_ref et'
    have i1 : TS.intsOf s.heap u = n := by
      rw [eu]
      exact (tupI_raw I ht).ints
    have i2 : TS.intsOf s.heap v = m := by
      rw [ev]
      exact (tupI_raw I ht').ints
    have huv' : ltC B s.heap v u = false := huv
    unfold ltC at huv'
    have := of_decide_eq_false huv'
    rw [i1, i2] at this
    omega
end

/-! ### the order on data -/
abbrev BB : Int := 18446744073709551616
def rankD : D → Int
  | .int i => i
  | .tuple ds => match intsOf ds with
    | some ns => TS.code BB ns
    | none => 0
  | _ => 0
def insD (d : D) : List D → List D
  | [] => [d]
  | e :: r => if rankD d ≤ rankD e then d :: e :: r else e :: insD d r
def sortD : List D → List D
  | [] => []
  | d :: r => insD d (sortD r)
def insU (d : D) : List D → List D
  | [] => [d]
  | e :: r => if rankD d < rankD e then d :: e :: r else if rankD d = rankD e then e :: r else e :: insU d r
def setD : List D → List D
  | [] => []
  | d :: r => insU d (setD r)
theorem insD_perm (d : D) : ∀ l, (insD d l).Perm (d :: l)
  | [] => .refl _
  | e :: r => by
    unfold insD
    split
    · exact .refl _
    · exact ((insD_perm d r).cons e).trans (.swap d e r)
theorem sortD_perm : ∀ l, (sortD l).Perm l
  | [] => .refl _
  | d :: r => (insD_perm d _).trans ((sortD_perm r).cons d)
abbrev AscD (l : List D) : Prop := l.Pairwise fun a b => rankD a ≤ rankD b
abbrev StrD (l : List D) : Prop := l.Pairwise fun a b => rankD a < rankD b
theorem insD_asc (d : D) : ∀ l, AscD l → AscD (insD d l)
  | [], _ => List.pairwise_singleton _ _
  | e :: r, h => by
    obtain ⟨h1, h2⟩ := List.pairwise_cons.mp h
    unfold insD
    split
    · rename_i c
      refine List.pairwise_cons.mpr ⟨fun x hx => ?_, h⟩
      rcases List.mem_cons.mp hx with rfl | hx
      · exact c
      · exact Int.le_trans c (h1 x hx)
    · rename_i c
      refine List.pairwise_cons.mpr ⟨fun x hx => ?_, insD_asc d r h2⟩
      rcases List.mem_cons.mp ((insD_perm d r).mem_iff.mp hx) with rfl | hx
      · omega
      · exact h1 x hx
theorem sortD_asc : ∀ l, AscD (sortD l)
  | [] => List.Pairwise.nil
  | d :: r => insD_asc d _ (sortD_asc r)
theorem insU_mem (d : D) : ∀ l x, x ∈ insU d l → x = d ∨ x ∈ l
  | [], x, h => .inl (List.mem_singleton.mp h)
  | e :: r, x, h => by
    unfold insU at h
    split at h
    · rcases List.mem_cons.mp h with h | h
      · exact .inl h
      · exact .inr h
    · split at h
      · exact .inr h
      · rcases List.mem_cons.mp h with h | h
        · exact .inr (h ▸ List.mem_cons_self)
        · rcases insU_mem d r x h with h | h
          · exact .inl h
          · exact .inr (List.mem_cons_of_mem _ h)
theorem insU_str (d : D) : ∀ l, StrD l → StrD (insU d l)
  | [], _ => List.pairwise_singleton _ _
  | e :: r, h => by
    obtain ⟨h1, h2⟩ := List.pairwise_cons.mp h
    unfold insU
    split
    · rename_i c
      refine List.pairwise_cons.mpr ⟨fun x hx => ?_, h⟩
      rcases List.mem_cons.mp hx with rfl | hx
      · exact c
      · exact Int.lt_trans c (h1 x hx)
    · split
      · exact h
      · refine List.pairwise_cons.mpr ⟨fun x hx => ?_, insU_str d r h2⟩
        rcases insU_mem d r x hx with rfl | hx
        · omega
        · exact h1 x hx
theorem setD_str : ∀ l, StrD (setD l)
  | [] => List.Pairwise.nil
  | d :: r => insU_str d _ (setD_str r)
theorem setD_sub : ∀ l x, x ∈ setD l → x ∈ l
  | [], x, h => h
  | d :: r, x, h => by
    rcases insU_mem d _ x h with h | h
    · exact h ▸ List.mem_cons_self
    · exact List.mem_cons_of_mem _ (setD_sub r x h)
theorem insU_has (d : D) : ∀ l, ∃ y ∈ insU d l, rankD y = rankD d
  | [] => ⟨d, List.mem_singleton.mpr rfl, rfl⟩
  | e :: r => by
    unfold insU
    split
    · exact ⟨d, List.mem_cons_self, rfl⟩
    · split
      · rename_i c; exact ⟨e, List.mem_cons_self, c.symm⟩
      · obtain ⟨y, h1, h2⟩ := insU_has d r
        exact ⟨y, List.mem_cons_of_mem _ h1, h2⟩
theorem insU_old (d : D) : ∀ l x, x ∈ l → x ∈ insU d l
  | e :: r, x, h => by
    unfold insU
    split
    · exact List.mem_cons_of_mem _ h
    · split
      · exact h
      · rcases List.mem_cons.mp h with h | h
        · exact h ▸ List.mem_cons_self
        · exact List.mem_cons_of_mem _ (insU_old d r x h)
theorem setD_has : ∀ l x, x ∈ l → ∃ y ∈ setD l, rankD y = rankD x
  | d :: r, x, h => by
    rcases List.mem_cons.mp h with rfl | h
    · exact insU_has x _
    · obtain ⟨y, h1, h2⟩ := setD_has r x h
      exact ⟨y, insU_old d _ y h1, h2⟩
/-- what tells data by its rank -/
def InjD (l : List D) : Prop := ∀ a ∈ l, ∀ b ∈ l, rankD a = rankD b → a = b
theorem setD_mem {l : List D} (hi : InjD l) {x : D} : x ∈ setD l ↔ x ∈ l := ⟨setD_sub l x, fun h => by
  obtain ⟨y, h1, h2⟩ := setD_has l x h
  rw [← hi y (setD_sub l y h1) x h h2]
  exact h1⟩
theorem asc_uniq : ∀ {l m : List D}, InjD l → AscD l → AscD m → l.Perm m → l = m
  | [], m, _, _, _, h => (List.Perm.nil_eq h)
  | a :: l, [], _, _, _, h => absurd h.length_eq (by simp)
  | a :: l, b :: m, hi, h1, h2, h => by
    obtain ⟨a1, a2⟩ := List.pairwise_cons.mp h1
    obtain ⟨b1, b2⟩ := List.pairwise_cons.mp h2
    have ba : b ∈ a :: l := h.mem_iff.mpr List.mem_cons_self
    have ab : a ∈ b :: m := h.mem_iff.mp List.mem_cons_self
    have e : a = b := by
      refine hi a List.mem_cons_self b ba (Int.le_antisymm ?_ ?_)
      · rcases List.mem_cons.mp ba with z | z
        · rw [z]; exact Int.le_refl _
        · exact a1 b z
      · rcases List.mem_cons.mp ab with z | z
        · rw [z]; exact Int.le_refl _
        · exact b1 a z
    subst e
    rw [asc_uniq (fun x hx y hy => hi x (List.mem_cons_of_mem _ hx) y (List.mem_cons_of_mem _ hy)) a2 b2 h.cons_inv]
theorem str_asc {l : List D} (h : StrD l) : AscD l := h.imp fun {a b} x => by omega
theorem str_nodup {l : List D} (h : StrD l) : l.Nodup := h.imp fun {a b} x e => by subst e; omega
theorem str_uniq {l m : List D} (hi : InjD l) (h1 : StrD l) (h2 : StrD m) (h : ∀ x, x ∈ l ↔ x ∈ m) : l = m :=
  asc_uniq hi (str_asc h1) (str_asc h2) ((List.perm_ext_iff_of_nodup (str_nodup h1) (str_nodup h2)).mpr h)
/-! ### what can be sorted -/
def okTup (n : Nat) : D → Bool
  | .tuple ds => match intsOf ds with
    | some ns => ns.length == n && ns.all fun i => decide (0 ≤ i ∧ i < BB)
    | none => false
  | _ => false
def tupN : D → Nat
  | .tuple ds => ds.length
  | _ => 0
def tupsOk (l : List D) : Bool := match l with
  | [] => true
  | d :: _ => decide (1 ≤ tupN d) && l.all (okTup (tupN d))
def sortOk (l : List D) : Bool := (intsOf l).isSome || tupsOk l
theorem okTup_eq {n : Nat} {d : D} (h : okTup n d = true) : ∃ ns : List Int, d = .tuple (ns.map .int) ∧ ns.length = n ∧ TS.Bd BB ns ∧ rankD d = TS.code BB ns := by
  unfold okTup at h
  split at h
  · rename_i ds
    split at h
    · rename_i ns e
      rw [Bool.and_eq_true] at h
      obtain ⟨h1, h2⟩ := h
      refine ⟨ns, by rw [intsOf_eq e], by simpa using h1, fun m hm => ?_, by show (match intsOf ds with | some ns => TS.code BB ns | none => 0) = _; rw [e]⟩
      exact of_decide_eq_true (List.all_eq_true.mp h2 m hm)
    · cases h
  · cases h
theorem code_inj {B : Int} : ∀ {ns ms : List Int}, ns.length = ms.length → TS.Bd B ns → TS.Bd B ms → TS.code B ns = TS.code B ms → ns = ms
  | [], [], _, _, _, _ => rfl
  | n :: ns, m :: ms, hl, h1, h2, e => by
    have hl' : ns.length = ms.length := by simpa using hl
    have en : n = m := by
      rcases Int.lt_trichotomy n m with c | c | c
      · have := TS.code_lt hl' h1.tail h2.tail c; omega
      · exact c
      · have := TS.code_lt hl'.symm h2.tail h1.tail c; omega
    subst en
    have e' : TS.code B ns = TS.code B ms := by
      have u : n * B ^ ns.length + TS.code B ns = n * B ^ ms.length + TS.code B ms := e
      rw [hl'] at u
      generalize n * B ^ ms.length = X at u
      omega
    rw [code_inj hl' h1.tail h2.tail e']
theorem inj_ints {l : List D} (h : (intsOf l).isSome = true) : InjD l := by
  obtain ⟨ns, e⟩ := Option.isSome_iff_exists.mp h
  rw [intsOf_eq e]
  intro a ha b hb r
  obtain ⟨i, _, rfl⟩ := List.mem_map.mp ha
  obtain ⟨j, _, rfl⟩ := List.mem_map.mp hb
  have r' : i = j := r
  rw [r']
theorem tupsOk_all {l : List D} (h : tupsOk l = true) : ∃ n, 1 ≤ n ∧ ∀ d ∈ l, okTup n d = true := by
  unfold tupsOk at h
  split at h
  · exact ⟨1, Nat.le_refl _, fun d hd => nomatch hd⟩
  · rename_i d r
    rw [Bool.and_eq_true] at h
    exact ⟨_, of_decide_eq_true h.1, fun x hx => List.all_eq_true.mp h.2 x hx⟩
theorem inj_tups {l : List D} (h : tupsOk l = true) : InjD l := by
  obtain ⟨n, _, h⟩ := tupsOk_all h
  intro a ha b hb r
  obtain ⟨ns, rfl, l1, b1, r1⟩ := okTup_eq (h a ha)
  obtain ⟨ms, rfl, l2, b2, r2⟩ := okTup_eq (h b hb)
  rw [code_inj (by omega) b1 b2 (by rw [← r1, ← r2]; exact r)]
theorem inj_ok {l : List D} (h : sortOk l = true) : InjD l := by
  unfold sortOk at h
  rw [Bool.or_eq_true] at h
  rcases h with h | h
  · exact inj_ints h
  · exact inj_tups h
end Rf

set_option maxRecDepth 100000
set_option maxHeartbeats 4000000
namespace Rf
open PySem PySem.Spec PyProof.Rows L2
section
variable {P : Program} {w : World} {A : Around} {E : Value → Shared → Prop} {s : Shared}
/-- set(xs), xs a list of ints: its table can be walked -/
theorem call_set_listI {l : Addr} {items : Array Value} (ns : List Int) {Q : Value → Shared → Prop} (hh : A.handled = none) (hl : s.heap.IsList l items) (hit : IntsAre items.toList ns) (hb : ns.length + 1 < scanBound)
    (h : ∀ (h' : Heap) (tk c : Nat), SetR w h' s.heap.objs.size (fun j => decide (j ∈ ns)) c → (∀ b o, s.heap.get? b = some o → h'.get? b = some o) → Q (.ref s.heap.objs.size) { s with heap := h', toks := tk }) :
    wpAny (model P w) A (call (.type "set") [.ref l]) Q E s := by
  have hisz : items.size = ns.length := by
    have q := IntsAre.length hit
    rw [Array.length_toList] at q
    exact q
  obtain ⟨c, tl, hmro⟩ := F.called_set.mro
  have hmade := F.called_set.made
  have hsub := F.called_set.sub
  refine wpAny_call (codeAny_of_tree ?_)
  show wpAny _ _ (callAny (.type "set") _) _ _ _
  refine wpAny_pure ⟨Code.quiet_builtin _ (by decide +kernel), codeAny_builtin F.entry_type_call ?_⟩
  rw [Around.under_plain (weight_type_call_type "set" [.ref l] []) rfl]
  have h1 := F.called_set.notType
  have h2 := F.called_set.canCreate
  have hct := F.typeCall_set_1 (.ref l)
  repeat (any_goals (first | assumption | wp_step))
  refine codeAny_mono (code_set_led1 (.ref l) (E := E) (Q₁ := fun obj s₁ => obj = .ref s.heap.objs.size ∧ s₁ = { s with heap := s.heap.push { cls := .type "set", dict := none, data := .set #[] 0 (.fresh 0 0 (!w.params.followText "set-order")) } }) ⟨rfl, rfl⟩) fun r s₁ hr => ?_
  cases r with
  | error e => exact hr
  | ok fl =>
    cases fl with
    | ret obj =>
      obtain ⟨rfl, rfl⟩ := hr
      have hS : (s.heap.push { cls := .type "set", dict := none, data := .set #[] 0 (.fresh 0 0 (!w.params.followText "set-order")) }).get? s.heap.objs.size = some { cls := .type "set", dict := none, data := .set #[] 0 (.fresh 0 0 (!w.params.followText "set-order")) } := Heap.get?_push_size _ rfl
      have hT : Shared.TypeIs { s with heap := s.heap.push { cls := .type "set", dict := none, data := .set #[] 0 (.fresh 0 0 (!w.params.followText "set-order")) } } (.ref s.heap.objs.size) "set" := ⟨_, hS, rfl⟩
      have hli := F.called_set.init.lookup
      have hbi := F.called_set.init.bind (.ref s.heap.objs.size)
      repeat (any_goals (first | assumption | wp_step))
      refine codeAny_mono (codeAny_call_builtin (R := wants (fun r s₂ => r = .none ∧ ∃ h' tk c, s₂ = { s with heap := h', toks := tk } ∧ SetR w h' s.heap.objs.size (fun j => decide (j ∈ ns)) c ∧
          (∀ b o, s.heap.get? b = some o → h'.get? b = some o)) E) F.called_set.init.plain F.entry_set_init (check_set_init_1 hT ?_)) fun r₂ s₂ hr₂ => ?_
      · obtain ⟨ol, hol, hcl, nl, hdl⟩ := hl
        obtain ⟨ocls, odict, odata, oslots⟩ := ol
        simp only at hcl hdl
        subst hcl; subst hdl
        have hol' : (s.heap.push { cls := .type "set", dict := none, data := .set #[] 0 (.fresh 0 0 (!w.params.followText "set-order")) }).get? l = some { cls := .type "list", dict := odict, data := .seq items nl, slots := oslots } := Heap.get?_push_of_some _ hol
        have hsls := F.sub_list_set
        have hslf := F.sub_list_frozenset
        have hne : (Value.type "list" == Value.type "dict") = false := by decide
        have hl1 : (s.heap.push { cls := .type "set", dict := none, data := .set #[] 0 (.fresh 0 0 (!w.params.followText "set-order")) }).IsList l items := ⟨_, hol', rfl, nl, rfl⟩
        unfold Builtin.«set.__init__» noKeywords Builtin.Frozenset.updateFrom
        generalize hPI : pyIter = PI
        wp_walk
        subst hPI
        refine wpAny_pyIter_list hl1 ?_
        refine wpAny_bind (wpAny_runValue ?_)
        have hlS : l < s.heap.objs.size := Heap.lt_size hol
        have hh3 : A.in1.in1.in1.handled = none := by simp [hh]
        have hneI : l ≠ (s.heap.push { cls := .type "set", dict := none, data := .set #[] 0 (.fresh 0 0 (!w.params.followText "set-order")) }).objs.size := by
          rw [Heap.size_push]; exact Nat.ne_of_lt (Nat.lt_succ_of_lt hlS)
        have hSf : s.heap.objs.size ∉ [(s.heap.push { cls := .type "set", dict := none, data := .set #[] 0 (.fresh 0 0 (!w.params.followText "set-order")) }).objs.size, l] := by
          rw [Heap.size_push]; simp only [List.mem_cons, List.mem_singleton, List.not_mem_nil, or_false, not_or]
          exact ⟨Nat.ne_of_lt (Nat.lt_succ_self _), Nat.ne_of_gt hlS⟩
        have hval : ∀ (i : Nat) (v : Value), items[i]? = some v → ∃ k t, ns[i]? = some k ∧ v = .int k t := fun i v hv => by
          have hi : i < ns.length := by rw [← hisz]; exact (Array.getElem?_eq_some_iff.mp hv).1
          obtain ⟨t, e⟩ := PyProof.Rows.IntsAre.int_at hit i v (by rw [Array.getElem?_toList]; exact hv)
          refine ⟨ns[i], t, List.getElem?_eq_getElem hi, ?_⟩
          rw [e, List.getD_eq_getElem?_getD, List.getElem?_eq_getElem hi] <;> rfl
        refine set_update_ints ((Walks.list hh3 _ l hneI items).toS) s.heap.objs.size
          hSf ns hisz hb hval (items.size - 0) 0 _ (by omega) (Nat.zero_le _)
          ⟨⟨_, Heap.get?_push_size _ rfl, rfl, rfl⟩, (hl1.push _)⟩ ?hS0 ?hR
        case hS0 =>
          have hget : ((s.heap.push { cls := .type "set", dict := none, data := .set #[] 0 (.fresh 0 0 (!w.params.followText "set-order")) }).push { cls := .type "list_iterator", data := .fields #[.ref l, .int 0 0] }).get? s.heap.objs.size
              = some { cls := .type "set", dict := none, data := .set #[] 0 (.fresh 0 0 (!w.params.followText "set-order")) } := Heap.get?_push_of_some _ hS
          exact ⟨0, Nat.le_refl 0, setR_new_at hget⟩
        case hR =>
          intro s' c' hm hc' hS'
          obtain ⟨h', g2, d', tk', os'⟩ := s'
          have eg : g2 = s.gens := hm.gens
          have ed : d' = s.drawn := hm.drawn
          have eo : os' = s.os := hm.os
          subst eg; subst ed; subst eo
          show wpAny _ _ _ _ _ _
          refine wpAny_pure ?_
          show wpAny _ _ (ret Value.none) _ _ _
          refine wpAny_pure ⟨rfl, h', tk', c', rfl, hS', fun b o e => ?_⟩
          have hb0 : b < s.heap.objs.size := Heap.lt_size e
          have hb1 : b ≠ s.heap.objs.size := Nat.ne_of_lt hb0
          have hb2 : b ≠ (s.heap.push { cls := .type "set", dict := none, data := .set #[] 0 (.fresh 0 0 (!w.params.followText "set-order")) }).objs.size := by
            rw [Heap.size_push]; exact Nat.ne_of_lt (Nat.lt_succ_of_lt hb0)
          exact hm.heap b o (by simp only [List.mem_cons, List.mem_singleton, List.not_mem_nil, or_false, not_or]; exact ⟨hb1, hb2⟩) (Heap.get?_push_of_some _ (Heap.get?_push_of_some _ e))
      · cases r₂ with
        | error e => exact hr₂
        | ok fl₂ =>
          cases fl₂ with
          | ret r =>
            obtain ⟨rfl, h', tk, c', rfl, hS', hk'⟩ := hr₂
            repeat (any_goals (first | assumption | wp_step))
            exact h _ _ _ hS' hk'
          | _ => exact hr₂.elim
    | _ => exact hr.elim
end
theorem nodup_len {α : Type} [DecidableEq α] : ∀ (l L : List α), l.Nodup → (∀ x ∈ l, x ∈ L) → l.length ≤ L.length
  | [], _, _, _ => Nat.zero_le _
  | x :: l, L, hn, hs => by
    obtain ⟨h1, h2⟩ := List.nodup_cons.mp hn
    have hx : x ∈ L := hs x List.mem_cons_self
    have ih := nodup_len l (L.erase x) h2 fun y hy => by
      have hne : y ≠ x := fun e => h1 (e ▸ hy)
      exact (List.mem_erase_of_ne hne).2 (hs y (List.mem_cons_of_mem _ hy))
    have e := List.length_erase_of_mem hx
    have hp : 0 < L.length := List.length_pos_of_mem hx
    rw [List.length_cons]
    omega
theorem setR_count {w : World} {h : Heap} {a : Addr} {ns : List Int} {c : Nat} (R : SetR w h a (fun j => decide (j ∈ ns)) c) (L : List Int) (hL : ∀ k ∈ ns, k ∈ L) : c ≤ L.length := by
  obtain ⟨o, es, ep, t, ho, hx, hd, g, nd, hm, hb, hf, hn, _⟩ := R
  have e : (es.toList.map keyOf).length = c := by rw [List.length_map, Array.length_toList, hn]
  rw [← e]
  exact nodup_len _ L nd fun k hk => hL k (of_decide_eq_true ((hm k).mpr hk))
theorem setR_count' {w : World} {h : Heap} {a : Addr} {ns : List Int} {c : Nat} (R : SetR w h a (fun j => decide (j ∈ ns)) c) (L : List Int) (hL : L.Nodup) (hl : ∀ k, k ∈ L → k ∈ ns) : L.length ≤ c := by
  obtain ⟨o, es, ep, t, ho, hx, hd, g, nd, hm, hb, hf, hn, _⟩ := R
  have e : (es.toList.map keyOf).length = c := by rw [List.length_map, Array.length_toList, hn]
  rw [← e]
  exact nodup_len L _ hL fun k hk => (hm k).mp (decide_eq_true (hl k hk))
section
variable {X : Cx}
/-- set(xs), xs a list of ints -/
def rSetI (K : PySem.W.Frag) (w : World) : List V → Hp → VK → Prop := fun xs H Q => ∃ (l : Addr) (ns : List Int), xs = [V.ref l] ∧ SqL K H l (ns.map V.int) ∧ ns.length + 1 < scanBound ∧
  ∀ a c, H a = none → (∀ L : List Int, (∀ k ∈ ns, k ∈ L) → c ≤ L.length) → (∀ L : List Int, L.Nodup → (∀ k ∈ L, k ∈ ns) → L.length ≤ c) → Q (.ref a) (upd H a (SetO w a (fun j => decide (j ∈ ns)) c))
theorem cr_setI (hc : X.calm = true) : CallR X (.type "set") (rSetI X.K X.w) := by
  intro pins s σ H xs us Q I r h
  obtain ⟨l, ns, rfl, hl, hb, q⟩ := h
  rw [Vals.ref1 r]
  obtain ⟨its, rv, pl, hz⟩ := I.list hl
  refine call_set_listI (P := X.prog) (w := X.w) ns (I.ok.hd hc) pl.isList (by simpa using rv.ints) hb fun h' tk c R k => ?_
  exact ⟨.ref s.heap.objs.size, upd H s.heap.objs.size (SetO X.w s.heap.objs.size (fun j => decide (j ∈ ns)) c), I.laid (t' := tk) k (Nat.le_refl _) (setO_new R), rfl, q _ c (I.hok.fresh (Nat.le_refl _)) (setR_count R) (setR_count' R)⟩
def rSetX (K : PySem.W.Frag) (P : Program) (w : World) : List V → Hp → VK → Prop := fun xs H Q => rSetI K w xs H Q ∨ rSetOfT K P w xs H Q
theorem cr_setX (hc : X.calm = true) (hu : X.A.units + 65 < cLine) : CallR X (.type "set") (rSetX X.K X.prog X.w) := by
  intro pins s σ H xs us Q I r h
  rcases h with h | h
  · exact cr_setI hc pins s σ H xs us Q I r h
  · exact cr_setOfT hc (by omega) pins s σ H xs us Q I r h
def rSortX (K : PySem.W.Frag) (P : Program) (w : World) : List V → Hp → VK → Prop := fun xs H Q => (rSortedI K xs H Q ∨ ∃ d, 1 ≤ d ∧ rSortA K d BB xs H Q) ∨ rSortedSet w xs H Q ∨ rSortedT K P w xs H Q
theorem cr_sortX (hc : X.calm = true) : CallR X (.builtin "sorted") (rSortX X.K X.prog X.w) := by
  intro pins s σ H xs us Q I r h
  rcases h with (h | ⟨d, hd, h⟩) | h | h
  · exact cr_sortedI pins s σ H xs us Q I r h
  · exact cr_sortA hd pins s σ H xs us Q I r h
  · exact cr_sortedSet hc pins s σ H xs us Q I r h
  · exact cr_sortedT hc pins s σ H xs us Q I r h
end
/-! ### data of them -/
theorem DpAll.perm {K : PySem.W.Frag} {G : Hp} {xs ys : List V} (h : ys.Perm xs) : ∀ {ds : List D}, DpAll K G xs ds → ∃ es, es.Perm ds ∧ DpAll K G ys es := by
  induction h with
  | nil => intro ds h; cases h; exact ⟨[], .refl _, .nil⟩
  | cons x _ ih =>
    intro ds h
    cases h with
    | cons a r =>
      obtain ⟨es, h1, h2⟩ := ih r
      exact ⟨_ :: es, h1.cons _, .cons a h2⟩
  | swap x y l =>
    intro ds h
    cases h with
    | cons a r =>
      cases r with
      | cons b t => exact ⟨_ :: _ :: _, .swap _ _ _, .cons b (.cons a t)⟩
  | trans _ _ ih1 ih2 =>
    intro ds h
    obtain ⟨es, h1, h2⟩ := ih2 h
    obtain ⟨fs, h3, h4⟩ := ih1 h2
    exact ⟨fs, h3.trans h1, h4⟩
theorem DpAll.mem {K : PySem.W.Frag} {G : Hp} : ∀ {vs : List V} {ds : List D} {v : V}, DpAll K G vs ds → v ∈ vs → ∃ d ∈ ds, Dp K G v d
  | _, _, _, .cons a r, h => by
    rcases List.mem_cons.mp h with rfl | h
    · exact ⟨_, List.mem_cons_self, a⟩
    · obtain ⟨d, h1, h2⟩ := DpAll.mem r h
      exact ⟨d, List.mem_cons_of_mem _ h1, h2⟩
theorem DpAll.mem' {K : PySem.W.Frag} {G : Hp} : ∀ {vs : List V} {ds : List D} {d : D}, DpAll K G vs ds → d ∈ ds → ∃ v ∈ vs, Dp K G v d
  | _, _, _, .cons a r, h => by
    rcases List.mem_cons.mp h with rfl | h
    · exact ⟨_, List.mem_cons_self, a⟩
    · obtain ⟨d, h1, h2⟩ := DpAll.mem' r h
      exact ⟨d, List.mem_cons_of_mem _ h1, h2⟩
theorem DpAll.pair {K : PySem.W.Frag} {G : Hp} {R : V → V → Prop} {S : D → D → Prop} : ∀ {vs : List V} {ds : List D}, DpAll K G vs ds → vs.Pairwise R → (∀ v d u e, Dp K G v d → Dp K G u e → d ∈ ds → e ∈ ds → R v u → S d e) → ds.Pairwise S
  | _, _, .nil, _, _ => .nil
  | v :: vs, d :: ds, .cons a r, h, k => by
    obtain ⟨h1, h2⟩ := List.pairwise_cons.mp h
    refine List.pairwise_cons.mpr ⟨fun e he => ?_, DpAll.pair r h2 fun v d u e x y m n => k v d u e x y (List.mem_cons_of_mem _ m) (List.mem_cons_of_mem _ n)⟩
    obtain ⟨u, hu, du⟩ := DpAll.mem' r he
    exact k v d u e a du List.mem_cons_self (List.mem_cons_of_mem _ he) (h1 u hu)
theorem dp_tup {K : PySem.W.Frag} {G H : Hp} {v : V} {ns : List Int} (le : Le G H) (h : Dp K G v (.tuple (ns.map .int))) : TupI K H v ns := by
  obtain ⟨a, xs, rfl, s, h2⟩ := dtup h
  rw [DpAll.ints h2] at s
  exact ⟨a, rfl, SqT.le le s⟩
/-- what the set of data is, sorted -/
def dSorted : List D → Option (List D)
  | [.list l] => if sortOk l = true then some (sortD l) else none
  | [.tuple l] => none
  | _ => none
def dSetS : List D → Option (List D)
  | [.list l] => if (intsOf l).isSome = true ∧ l.length < 4000 ∧ (setD l).length < 64 ∨ tupsOk l = true ∧ l.length < 64 then some (setD l) else none
  | _ => none
def dSetN : List D → Option D
  | [.list l] => if (intsOf l).isSome = true ∧ l.length < 4000 then some (.int (setD l).length) else none
  | _ => none
theorem sort_ints {ns ns' : List Int} (hp : ns'.Perm ns) (ha : ns'.Pairwise (· ≤ ·)) : sortD (ns.map PyData.int) = ns'.map PyData.int := by
  have hi : InjD (sortD (ns.map PyData.int)) := fun a ha b hb r => by
    have h0 : InjD (ns.map PyData.int) := inj_ints (by
      have : ∀ l : List Int, intsOf (l.map PyData.int) = some l := fun l => by
        induction l with
        | nil => rfl
        | cons x l ih => rw [List.map_cons]; unfold intsOf; rw [ih]; rfl
      rw [this]; rfl)
    exact h0 a ((sortD_perm _).mem_iff.mp ha) b ((sortD_perm _).mem_iff.mp hb) r
  refine asc_uniq hi (sortD_asc _) (List.pairwise_map.mpr (ha.imp fun {x y} h => h)) ((sortD_perm _).trans (hp.map _).symm)
theorem intsOf_map : ∀ l : List Int, intsOf (l.map PyData.int) = some l
  | [] => rfl
  | x :: l => by rw [List.map_cons]; unfold intsOf; rw [intsOf_map l]; rfl
theorem set_ints {ns ns' : List Int} (ha : ns'.Pairwise (· < ·)) (hm : ∀ k : Int, k ∈ ns' ↔ k ∈ ns) : setD (ns.map PyData.int) = ns'.map PyData.int := by
  have h0 : InjD (ns.map PyData.int) := inj_ints (by rw [intsOf_map]; rfl)
  have hi : InjD (setD (ns.map PyData.int)) := fun a ha b hb r => h0 a (setD_sub _ a ha) b (setD_sub _ b hb) r
  refine str_uniq hi (setD_str _) (List.pairwise_map.mpr (ha.imp fun {x y} h => h)) fun x => ?_
  rw [setD_mem h0, List.mem_map, List.mem_map]
  constructor
  · rintro ⟨k, h1, rfl⟩; exact ⟨k, (hm k).mpr h1, rfl⟩
  · rintro ⟨k, h1, rfl⟩; exact ⟨k, (hm k).mp h1, rfl⟩
/-- the ints that a set of ints holds, in their order -/
theorem set_intsL (ns : List Int) : ∃ L : List Int, setD (ns.map PyData.int) = L.map PyData.int ∧ L.Nodup ∧ ∀ k, k ∈ L ↔ k ∈ ns := by
  have h0 : InjD (ns.map PyData.int) := inj_ints (by rw [intsOf_map]; rfl)
  have : ∀ l : List D, (∀ x ∈ l, ∃ k : Int, x = .int k) → ∃ L : List Int, l = L.map PyData.int := fun l => by
    induction l with
    | nil => exact fun _ => ⟨[], rfl⟩
    | cons a l ih =>
      intro h
      obtain ⟨k, rfl⟩ := h a List.mem_cons_self
      obtain ⟨L, rfl⟩ := ih fun x hx => h x (List.mem_cons_of_mem _ hx)
      exact ⟨k :: L, rfl⟩
  obtain ⟨L, e⟩ := this (setD (ns.map PyData.int)) fun x hx => by
    obtain ⟨k, _, rfl⟩ := List.mem_map.mp (setD_sub _ x hx)
    exact ⟨k, rfl⟩
  refine ⟨L, e, ?_, fun k => ?_⟩
  · have := str_nodup (setD_str (ns.map PyData.int))
    rw [e] at this
    exact (List.pairwise_map.mp this).imp fun {x y} h z => h (by rw [z])
  · have := setD_mem h0 (x := .int k)
    rw [e, List.mem_map, List.mem_map] at this
    constructor
    · intro h
      obtain ⟨j, h1, h2⟩ := this.mp ⟨k, h, rfl⟩
      cases h2; exact h1
    · intro h
      obtain ⟨j, h1, h2⟩ := this.mpr ⟨k, h, rfl⟩
      cases h2; exact h1
end Rf

set_option maxRecDepth 100000
set_option maxHeartbeats 4000000
namespace Rf
open PySem PySem.Spec PyProof.Rows L2
variable {B : Bs} {Wx : WX} {X : Cx}
def sSorted (fa : Rho → O (List D)) : Rho → O (List D) := fun ρ => (fa ρ).bind fun ds ρ1 => lift (dSorted ds) ρ1
def sSetS (fa : Rho → O (List D)) : Rho → O (List D) := fun ρ => (fa ρ).bind fun ds ρ1 => lift (dSetS ds) ρ1
def sSetN (fa : Rho → O (List D)) : Rho → O D := fun ρ => (fa ρ).bind fun ds ρ1 => lift (dSetN ds) ρ1
theorem boot_sorted : bootBuiltins ("sorted" : Str) = some (.builtin "sorted") := by decide +kernel
theorem boot_set : bootBuiltins ("set" : Str) = some (.type "set") := by decide +kernel
theorem r_sorted {e : Expr} {p pos : Pos} {fa : Rho → O (List D)} (hK : X.K = B.K) (hc : X.calm = true) (hg : Gl X "sorted") (hm : X.mg "sorted" = none) (ha : PA X [e] (tEs B Wx fa)) (he : starEach [e] X.env = (false, eval e X.env) :: starEach [] X.env) :
    PE X (.Call (.Name "sorted" p) [e] [] pos) (tEo B Wx (sSorted fa)) :=
  (pe_callB (cr_sortX hc) hg hm boot_sorted ha (by decide) (by decide) he (by rfl)).imp' fun σ H Q ⟨S, ρ, G, E, P⟩ => by
    refine ⟨S, ρ, G, E, P.bind.imp fun ds ρ1 H1 G1 E1 le1 q1 vs hvs => ?_⟩
    unfold dSorted at q1
    split at q1
    · rename_i l
      obtain ⟨v, rfl, hv⟩ := all1 hvs
      obtain ⟨a, xs, rfl, s1, a1⟩ := dlst hv
      split at q1
      · rename_i ok
        unfold sortOk at ok
        rw [Bool.or_eq_true] at ok
        refine .inl ?_
        rcases ok with ok | ok
        · obtain ⟨ns, en⟩ := Option.isSome_iff_exists.mp ok
          have el := intsOf_eq en
          subst el
          rw [DpAll.ints a1] at s1
          refine .inl ⟨a, ns, rfl, hK ▸ SqL.le E1.sub s1, fun ns' p hp ha hn => ?_⟩
          obtain ⟨e1, e2, e3, e4, e5⟩ := E1.newl (vs := ns'.map V.int) hn
          refine q1 _ G1 e1 Le.refl p _ e2 e3 e4 e5 ?_ ?_
          · have := szl E1 s1
            rw [List.length_map] at this ⊢
            rw [hp.length_eq]; exact this
          · rw [sort_ints hp ha]; exact DpAll.of_ints ns'
        · obtain ⟨n, hn1, hall⟩ := tupsOk_all ok
          have hx : ∀ d ∈ l, ∀ v, Dp B.K G1 v d → ∃ ns, TupI X.K H1 v ns ∧ ns.length = n ∧ TS.Bd BB ns ∧ rankD d = TS.code BB ns := fun d hd v hv => by
            obtain ⟨ns, rfl, h1, h2, h3⟩ := okTup_eq (hall d hd)
            exact ⟨ns, hK ▸ dp_tup E1.sub hv, h1, h2, h3⟩
          refine .inr ⟨n, hn1, a, xs, rfl, hK ▸ SqL.le E1.sub s1, fun x hxm => ?_, fun ys p hp hpw hn => ?_⟩
          · obtain ⟨d, hd, hv⟩ := DpAll.mem a1 hxm
            obtain ⟨ns, h1, h2, h3, _⟩ := hx d hd x hv
            exact ⟨ns, h1, h2, h3⟩
          · obtain ⟨e1, e2, e3, e4, e5⟩ := E1.newl (vs := ys) hn
            obtain ⟨es, k1, k2⟩ := DpAll.perm hp a1
            have asc : AscD es := DpAll.pair k2 hpw fun v d u e hv hu hd he r => by
              obtain ⟨ns, h1, _, _, h3⟩ := hx d (k1.mem_iff.mp hd) v hv
              obtain ⟨ms, h4, _, _, h6⟩ := hx e (k1.mem_iff.mp he) u hu
              rw [h3, h6]
              exact r ns ms h1 h4
            have i0 := inj_tups ok
            have ee : es = sortD l := asc_uniq (fun a ha b hb => i0 a (k1.mem_iff.mp ha) b (k1.mem_iff.mp hb)) asc (sortD_asc l) (k1.trans (sortD_perm l).symm)
            subst ee
            refine q1 _ G1 e1 Le.refl p _ e2 e3 e4 e5 ?_ k2
            rw [hp.length_eq]; exact szl E1 s1
      · exact False.elim q1
    · exact False.elim q1
    · exact False.elim q1
theorem scan_big : (4001 : Nat) < scanBound := by decide
theorem ok_of_tups {l : List D} (h : tupsOk l = true) : ∀ d ∈ l, ∃ ns : List Int, d = .tuple (ns.map .int) := fun d hd => by
  obtain ⟨n, _, hall⟩ := tupsOk_all h
  obtain ⟨ns, e, _⟩ := okTup_eq (hall d hd)
  exact ⟨ns, e⟩
/-- the list of tuples, told by addresses -/
theorem addrs_of {K : PySem.W.Frag} {G : Hp} : ∀ {xs : List V} {ds : List D}, DpAll K G xs ds → (∀ d ∈ ds, ∃ ns : List Int, d = .tuple (ns.map .int)) → ∃ ks : List (Addr × List Int), xs = ks.map (fun p => V.ref p.1) ∧ ds = ks.map (fun p => PyData.tuple (p.2.map .int)) ∧ ∀ p ∈ ks, SqT K G p.1 (p.2.map V.int)
  | _, _, .nil, _ => ⟨[], rfl, rfl, fun p hp => nomatch hp⟩
  | v :: vs, d :: ds, .cons a r, h => by
    obtain ⟨ns, rfl⟩ := h d List.mem_cons_self
    obtain ⟨ks, rfl, rfl, h3⟩ := addrs_of r fun e he => h e (List.mem_cons_of_mem _ he)
    obtain ⟨t, xs, rfl, s, h2⟩ := dtup a
    rw [DpAll.ints h2] at s
    refine ⟨(t, ns) :: ks, rfl, rfl, fun p hp => ?_⟩
    rcases List.mem_cons.mp hp with rfl | hp
    · exact s
    · exact h3 p hp
theorem dp_addrs {K : PySem.W.Frag} {G : Hp} : ∀ {ks : List (Addr × List Int)}, (∀ p ∈ ks, SqT K G p.1 (p.2.map V.int)) → DpAll K G (ks.map fun p => V.ref p.1) (ks.map fun p => PyData.tuple (p.2.map .int))
  | [], _ => .nil
  | p :: ks, h => .cons (.tup (h p List.mem_cons_self) (DpAll.of_ints _)) (dp_addrs fun q hq => h q (List.mem_cons_of_mem _ hq))
theorem r_sortSet {e : Expr} {p p2 q2 pos : Pos} {fa : Rho → O (List D)} (hK : X.K = B.K) (hc : X.calm = true) (hu : X.A.units + 65 < cLine) (hg : Gl X "sorted") (hm : X.mg "sorted" = none) (hg2 : Gl X "set") (hm2 : X.mg "set" = none) (ha : PA X [e] (tEs B Wx fa))
    (he : starEach [e] X.env = (false, eval e X.env) :: starEach [] X.env) (he2 : starEach [.Call (.Name "set" p2) [e] [] q2] X.env = (false, eval (.Call (.Name "set" p2) [e] [] q2) X.env) :: starEach [] X.env) :
    PE X (.Call (.Name "sorted" p) [.Call (.Name "set" p2) [e] [] q2] [] pos) (tEo B Wx (sSetS fa)) :=
  (pe_callB (cr_sortX hc) hg hm boot_sorted (pa_cons (pe_callTy (cr_setX hc hu) hg2 hm2 boot_set ha (by decide) (by decide) he (by rfl)) pa_nil he2) (by decide) (by decide) he2 (by rfl)).imp' fun σ H Q ⟨S, ρ, G, E, P⟩ => by
    refine ⟨S, ρ, G, E, P.bind.imp fun ds ρ1 H1 G1 E1 le1 q1 vs hvs => ?_⟩
    unfold dSetS at q1
    split at q1
    · rename_i l
      obtain ⟨v, rfl, hv⟩ := all1 hvs
      obtain ⟨a, xs, rfl, s1, a1⟩ := dlst hv
      split at q1
      · rename_i ok
        rcases ok with ⟨ok, hl, hs⟩ | ⟨ok, hl⟩
        · obtain ⟨ns, en⟩ := Option.isSome_iff_exists.mp ok
          have el := intsOf_eq en
          subst el
          rw [DpAll.ints a1] at s1
          rw [List.length_map] at hl
          refine .inl ⟨a, ns, rfl, hK ▸ SqL.le E1.sub s1, by have := scan_big; omega, fun t c ht hcnt _ => ?_⟩
          have E2 := E1.fresh (o := SetO X.w t (fun j => decide (j ∈ ns)) c) ht
          obtain ⟨L, eL, _, hL⟩ := set_intsL ns
          have h64 : c < 64 := by
            have h1 := hcnt L fun k hk => (hL k).mpr hk
            have h2 : (setD (ns.map PyData.int)).length = L.length := by rw [eL, List.length_map]
            omega
          refine .inr (.inl ⟨t, _, c, rfl, upd_same, h64, fun ns' p ha hm hlen hn => ?_⟩)
          obtain ⟨e1, e2, e3, e4, e5⟩ := E2.newl (vs := ns'.map V.int) hn
          refine q1 _ G1 e1 Le.refl p _ e2 e3 e4 e5 ?_ ?_
          · rw [List.length_map, hlen, line_eq]; omega
          · rw [set_ints ha fun k => (hm k).trans decide_eq_true_iff]; exact DpAll.of_ints ns'
        · obtain ⟨ks, rfl, rfl, hks⟩ := addrs_of a1 (ok_of_tups ok)
          rw [List.length_map] at hl
          obtain ⟨n, hn1, hall⟩ := tupsOk_all ok
          have hx : ∀ p ∈ ks, p.2.length = n ∧ TS.Bd BB p.2 ∧ rankD (.tuple (p.2.map .int)) = TS.code BB p.2 := fun p hp => by
            obtain ⟨ns, e0, h1, h2, h3⟩ := okTup_eq (hall _ (List.mem_map.mpr ⟨p, hp, rfl⟩))
            have e1 : p.2.map PyData.int = ns.map PyData.int := by injection e0
            have e2 : p.2 = ns := by
              have := congrArg intsOf e1
              rw [intsOf_map, intsOf_map] at this
              exact Option.some.inj this
            subst e2
            exact ⟨h1, h2, h3⟩
          refine .inr ⟨a, ks, rfl, hK ▸ SqL.le E1.sub s1, fun p hp => hK ▸ SqT.le E1.sub (hks p hp), hl, fun t L ht hL1 hL2 => ?_⟩
          have E2 := E1.fresh (o := SetTO X.prog X.w t L) ht
          refine .inr (.inr ⟨t, L, n, BB, rfl, upd_same, fun p hp => hK ▸ SqT.le E2.sub (hks p (hL1 p hp)), hn1, fun p hp => ⟨(hx p (hL1 p hp)).1, (hx p (hL1 p hp)).2.1⟩, fun L' p hpm hnd hlen hasc hn => ?_⟩)
          obtain ⟨e1, e2, e3, e4, e5⟩ := E2.newl (vs := L'.map fun q => V.ref q.1) hn
          refine q1 _ G1 e1 Le.refl p _ e2 e3 e4 e5 ?_ ?_
          · rw [List.length_map, line_eq]; omega
          · have hsub : ∀ p ∈ L', p ∈ ks := fun p hp => hL1 p (hpm.mem_iff.mp hp)
            have key := dp_addrs (K := B.K) (G := G1) (ks := L') fun p hp => hks p (hsub p hp)
            have i0 := inj_tups ok
            have asc : AscD (L'.map fun p => PyData.tuple (p.2.map .int)) := by
              refine List.pairwise_map.mpr (List.Pairwise.imp_of_mem (fun {x y} hx1 hy1 h => ?_) hasc)
              rw [(hx x (hsub x hx1)).2.2, (hx y (hsub y hy1)).2.2]
              exact h
            have nd : (L'.map fun p => PyData.tuple (p.2.map .int)).Nodup := by
              refine List.pairwise_map.mpr ((List.pairwise_map.mp hnd).imp fun {x y} h e => h ?_)
              have e1 : x.2.map PyData.int = y.2.map PyData.int := by injection e
              have := congrArg intsOf e1
              rw [intsOf_map, intsOf_map] at this
              exact Option.some.inj this
            have sub : ∀ x, x ∈ (L'.map fun p => PyData.tuple (p.2.map .int)) ↔ x ∈ setD (ks.map fun p => PyData.tuple (p.2.map .int)) := fun x => by
              rw [setD_mem i0, List.mem_map, List.mem_map]
              constructor
              · rintro ⟨p, h1, rfl⟩; exact ⟨p, hsub p h1, rfl⟩
              · rintro ⟨p, h1, rfl⟩
                obtain ⟨p', h2, h3⟩ := List.mem_map.mp (hL2 p h1)
                exact ⟨p', hpm.mem_iff.mpr h2, by rw [h3]⟩
            have ii : InjD (L'.map fun p => PyData.tuple (p.2.map .int)) := fun a ha b hb => i0 a (setD_sub _ a ((sub a).mp ha)) b (setD_sub _ b ((sub b).mp hb))
            have pm : (L'.map fun p => PyData.tuple (p.2.map .int)).Perm (setD (ks.map fun p => PyData.tuple (p.2.map .int))) := (List.perm_ext_iff_of_nodup nd (str_nodup (setD_str _))).mpr sub
            have ee := asc_uniq ii asc (str_asc (setD_str _)) pm
            exact ee ▸ key
      · exact False.elim q1
    · exact False.elim q1
end Rf

set_option maxRecDepth 100000
set_option maxHeartbeats 4000000
namespace Rf
open PySem PySem.Spec PyProof.Rows L2
variable {B : Bs} {Wx : WX} {X : Cx}
theorem c_lenSet : CallR X (.builtin "len") (fun vs H Q => ∃ (a : Addr) (S : Int → Bool) (n : Nat), vs = [.ref a] ∧ H a = some (SetO X.w a S n) ∧ n < 2 ^ 62 ∧ Q (.int (n : Nat)) H) := by
  intro pins s σ H vs us Q I r h
  obtain ⟨a, S, n, rfl, ha, hn, q⟩ := h
  rw [Vals.ref1 r]
  obtain ⟨o, es, ep, t, ho, hex, hd, _, _, _, _, hf, hs, _⟩ := setO_get I ha
  refine call_len_set ho hex hd hf (by rw [hs]; omega) ⟨.int (n : Nat), H, I.tok _, ⟨_, by rw [hs]⟩, q⟩
theorem r_lenSet {e : Expr} {p p2 q2 pos : Pos} {fa : Rho → O (List D)} (hK : X.K = B.K) (hc : X.calm = true) (hg : Gl X "len") (hm : X.mg "len" = none) (hg2 : Gl X "set") (hm2 : X.mg "set" = none) (ha : PA X [e] (tEs B Wx fa))
    (he : starEach [e] X.env = (false, eval e X.env) :: starEach [] X.env) (he2 : starEach [.Call (.Name "set" p2) [e] [] q2] X.env = (false, eval (.Call (.Name "set" p2) [e] [] q2) X.env) :: starEach [] X.env) :
    PE X (.Call (.Name "len" p) [.Call (.Name "set" p2) [e] [] q2] [] pos) (tEv B Wx (sSetN fa)) :=
  (pe_callB c_lenSet hg hm (by decide +kernel) (pa_cons (pe_callTy (cr_setI hc) hg2 hm2 boot_set ha (by decide) (by decide) he (by rfl)) pa_nil he2) (by decide) (by decide) he2 (by rfl)).imp' fun σ H Q ⟨S, ρ, G, E, P⟩ => by
    refine ⟨S, ρ, G, E, P.bind.imp fun ds ρ1 H1 G1 E1 le1 q1 vs hvs => ?_⟩
    unfold dSetN at q1
    split at q1
    · rename_i l
      obtain ⟨v, rfl, hv⟩ := all1 hvs
      obtain ⟨a, xs, rfl, s1, a1⟩ := dlst hv
      split at q1
      · rename_i ok
        obtain ⟨ok, hl⟩ := ok
        obtain ⟨ns, en⟩ := Option.isSome_iff_exists.mp ok
        have el := intsOf_eq en
        subst el
        rw [DpAll.ints a1] at s1
        rw [List.length_map] at hl
        refine ⟨a, ns, rfl, hK ▸ SqL.le E1.sub s1, by have := scan_big; omega, fun t c ht hc1 hc2 => ?_⟩
        obtain ⟨L, eL, nL, hL⟩ := set_intsL ns
        have ec : c = (setD (ns.map PyData.int)).length := by
          rw [eL, List.length_map]
          exact Nat.le_antisymm (hc1 L fun k hk => (hL k).mpr hk) (hc2 L nL fun k hk => (hL k).mp hk)
        have cl : c ≤ ns.length := hc1 ns fun k hk => hk
        refine ⟨t, _, c, rfl, upd_same, by omega, ?_⟩
        refine q1 _ G1 (E1.fresh ht) Le.refl _ ?_
        rw [ec]
        exact .int _
      · exact False.elim q1
    · exact False.elim q1
end Rf

set_option maxRecDepth 100000
set_option maxHeartbeats 4000000
namespace Rf
open PySem PySem.Spec PyProof.Rows L2
/-! ### the rules, their side conditions by themselves -/
variable {B : Bs} {Wx : WX} {X : Cx}
def sFrz (f : Rho → O (List D)) : Rho → O D := fun ρ => (f ρ).bind fun l ρ' => .ok (.list l) ρ'
theorem g_var (i : Nat) {x : Str} {pos : Pos} (hN : X.N[i]? = some x := by rfl) (hv : Vis X.env.scope x := by first | exact .inl rfl | exact .inr (.inl rfl) | exact .inr (.inr rfl)) (hd : (x == ("__debug__" : Str)) = false := by decide) (hcd : (x == ("__classdict__" : Str)) = false := by decide) : PE X (.Name x pos) (tEv B Wx (sVar i)) := r_var hN hv hd hcd
theorem g_gint {x : Str} {i : Int} {pos : Pos} (hm : ∃ t, X.mg x = some (.int i t)) (hg : Gl X x := by rfl) (hdb : (x == ("__debug__" : Str)) = false := by decide) : PE X (.Name x pos) (tEv B Wx (sCon (.int i))) :=
  let ⟨t, h⟩ := hm
  r_glob (v := .int i) hg h ⟨t, rfl⟩ (.int i) hdb
theorem g_cons {e : Expr} {es : List Expr} {f : Rho → O D} {g : Rho → O (List D)} (he : PE X e (tEv B Wx f)) (hr : PA X es (tEs B Wx g)) (hs : starEach (e :: es) X.env = (false, eval e X.env) :: starEach es X.env := by rfl) : PA X (e :: es) (tEs B Wx (sCons f g)) := r_cons he hr hs
theorem g_frz {e : Expr} {f : Rho → O (List D)} (h : PE X e (tEo B Wx f)) : PE X e (tEv B Wx (sFrz f)) := pe_frozen h
theorem g_bin {op : Operator} {a b : Expr} {pos : Pos} {fa fb : Rho → O D} (hK : X.K = B.K) (ha : PE X a (tEv B Wx fa)) (hb : PE X b (tEv B Wx fb)) : PE X (.BinOp a op b pos) (tEv B Wx (s2 (dBin op) fa fb)) := r_bin (opD_bin hK op) ha hb
theorem g_cmp {op : CmpOp} {a b : Expr} {pos : Pos} {fa fb : Rho → O D} (hK : X.K = B.K) (hu : X.A.units + 65 < cLine) (ha : PE X a (tEv B Wx fa)) (hb : PE X b (tEv B Wx fb)) (hm : behindInMarks op b = false := by rfl) : PE X (.Compare a [op] [b] pos) (tEv B Wx (s2 (bCmp op) fa fb)) := r_cmp (opD_cmp hK hu op) ha hb hm
theorem gt_cmp {op : CmpOp} {a b : Expr} {pos : Pos} {fa fb : Rho → O D} (hK : X.K = B.K) (hu : X.A.units + 65 < cLine) (ha : PE X a (tEv B Wx fa)) (hb : PE X b (tEv B Wx fb)) (hm : behindInMarks op b = false := by rfl) : PT X (.Compare a [op] [b] pos) (tEt B Wx (s2 (bCmp op) fa fb)) := rt_cmp (opD_cmp hK hu op) ha hb hm
theorem g_cmp2 {op op' : CmpOp} {a b c : Expr} {pos : Pos} {fa fb fc : Rho → O D} (hK : X.K = B.K) (hu : X.A.units + 65 < cLine) (ha : PE X a (tEv B Wx fa)) (hb : PE X b (tEv B Wx fb)) (hc : PE X c (tEv B Wx fc)) (hm : lastMarks [op, op'] [b, c] = false := by rfl) : PE X (.Compare a [op, op'] [b, c] pos) (tEv B Wx (sCmp2 op op' fa fb fc)) := r_cmp2 (opD_cmp hK hu op) (opD_cmp hK hu op') ha hb hc hm
theorem gt_cmp2 {op op' : CmpOp} {a b c : Expr} {pos : Pos} {fa fb fc : Rho → O D} (hK : X.K = B.K) (hu : X.A.units + 65 < cLine) (ha : PE X a (tEv B Wx fa)) (hb : PE X b (tEv B Wx fb)) (hc : PE X c (tEv B Wx fc)) (hm : lastMarks [op, op'] [b, c] = false := by rfl) : PT X (.Compare a [op, op'] [b, c] pos) (tEt B Wx (sCmp2 op op' fa fb fc)) := rt_cmp2 (opD_cmp hK hu op) (opD_cmp hK hu op') ha hb hc hm
theorem gt_val {e : Expr} {f : Rho → O D} (h : PE X e (tEv B Wx f)) (he : ∀ whole, isTrue e X.env whole = (do let v ← whole; standAt e.pos; holding [v] (truthy v)) := by intro _; rfl) : PT X e (tEt B Wx f) := rt_val h he
theorem g_ix {a b : Expr} {pos : Pos} {fa fb : Rho → O D} (hK : X.K = B.K) (ha : PE X a (tEv B Wx fa)) (hb : PE X b (tEv B Wx fb)) (hs : PlainIx b := by exact fun _ _ => rfl) : PE X (.Subscript a b pos) (tEv B Wx (s2 dIx fa fb)) := r_ix hK ha hb hs
theorem g_ixv (i : Nat) {x : Str} {b : Expr} {ps pos : Pos} {fb : Rho → O D} (hK : X.K = B.K) (hb : PE X b (tEv B Wx fb)) (hN : X.N[i]? = some x := by rfl) (hv : Vis X.env.scope x := by first | exact .inl rfl | exact .inr (.inl rfl) | exact .inr (.inr rfl)) (hd : (x == ("__debug__" : Str)) = false := by decide) (hcd : (x == ("__classdict__" : Str)) = false := by decide) (hs : PlainIx b := by exact fun _ _ => rfl) :
    PE X (.Subscript (.Name x ps) b pos) (tEv B Wx (sIxv i fb)) := r_ixv hK hN hv hd hcd hb hs
theorem gg_name (i : Nat) {x : Str} {pos : Pos} (hN : X.N.Nodup) (hi : X.N[i]? = some x := by rfl) (hx : Loc X.env.scope x := by first | exact .inl rfl | exact .inr rfl) (hf : X.fn x = true ∨ X.env.scope.names.lookup x = some .local := by first | exact .inl rfl | exact .inr rfl) : PG X (.Name x pos) (tTg B (.nm i)) := rg_name hN hi hx hf
theorem ggs_cons (i : Nat) {is : List Nat} {x : Str} {pos : Pos} {es : List Expr} (hN : X.N.Nodup) (h : PGs X es (tTgs B is)) (hi : X.N[i]? = some x := by rfl) (hx : Loc X.env.scope x := by first | exact .inl rfl | exact .inr rfl) (hf : X.fn x = true ∨ X.env.scope.names.lookup x = some .local := by first | exact .inl rfl | exact .inr rfl)
    (hs : (assignEach (.Name x pos :: es) X.env).map (·.2) = assign (.Name x pos) X.env :: (assignEach es X.env).map (·.2) := by rfl) : PGs X (.Name x pos :: es) (tTgs B (i :: is)) := rgs_cons hN hi hx hf h hs
theorem gg_tup {is : List Nat} {es : List Expr} {k : Nat} {pos : Pos} (hK : X.K = B.K) (hc : X.calm = true) (h : PGs X es (tTgs B is)) (hn : (assignEach es X.env).length = is.length := by rfl) (hst : (assignEach es X.env).findIdx? (·.1) = none := by rfl) : PG X (.Tuple es k pos) (tTg B (.tp is)) := rg_tup hK hc h hn hst
theorem sc1 {f : Rho → O D} : ∀ ρ ds ρ1, sCons f sNil ρ = .ok ds ρ1 → ds.length = 1 := fun ρ ds ρ1 h => by
  unfold sCons sNil at h
  cases e : f ρ with
  | ok x ρ2 => rw [e] at h; cases h; rfl
  | ex _ _ => rw [e] at h; cases h
  | no => rw [e] at h; cases h
theorem sc2 {f g : Rho → O D} : ∀ ρ ds ρ1, sCons f (sCons g sNil) ρ = .ok ds ρ1 → ds.length = 2 := fun ρ ds ρ1 h => by
  unfold sCons sNil at h
  cases e : f ρ with
  | ok x ρ2 =>
    rw [e] at h
    cases e2 : g ρ2 with
    | ok y ρ3 =>
      have h : (O.bind (O.bind (g ρ2) fun x ρ1 => O.bind (.ok [] ρ1) fun xs ρ2 => .ok (x :: xs) ρ2) fun xs ρ2 => O.ok (x :: xs) ρ2) = .ok ds ρ1 := h
      rw [e2] at h; cases h; rfl
    | ex _ _ =>
      have h : (O.bind (O.bind (g ρ2) fun x ρ1 => O.bind (.ok [] ρ1) fun xs ρ2 => .ok (x :: xs) ρ2) fun xs ρ2 => O.ok (x :: xs) ρ2) = .ok ds ρ1 := h
      rw [e2] at h; cases h
    | no =>
      have h : (O.bind (O.bind (g ρ2) fun x ρ1 => O.bind (.ok [] ρ1) fun xs ρ2 => .ok (x :: xs) ρ2) fun xs ρ2 => O.ok (x :: xs) ρ2) = .ok ds ρ1 := h
      rw [e2] at h; cases h
  | ex _ _ => rw [e] at h; cases h
  | no => rw [e] at h; cases h
theorem gi_rng1 {tg a : Expr} {p pos : Pos} {fa : Rho → O D} (hm : X.mg "range" = none) (ha : PE X a (tEv B Wx fa)) (hg : Gl X "range" := by rfl) (hs : starEach [a] X.env = [(false, eval a X.env)] := by rfl) : PI X tg (.Call (.Name "range" p) [a] [] pos) (tIt B Wx (sRng (sCons fa sNil))) := ri_rng1 hg hm (r_cons ha r_nil hs) hs sc1
theorem gi_rng2 {tg a b : Expr} {p pos : Pos} {fa fb : Rho → O D} (hm : X.mg "range" = none) (ha : PE X a (tEv B Wx fa)) (hb : PE X b (tEv B Wx fb)) (hg : Gl X "range" := by rfl) (hs : starEach [a, b] X.env = [(false, eval a X.env), (false, eval b X.env)] := by rfl) (hs2 : starEach [b] X.env = [(false, eval b X.env)] := by rfl) :
    PI X tg (.Call (.Name "range" p) [a, b] [] pos) (tIt B Wx (sRng (sCons fa (sCons fb sNil)))) := ri_rng2 hg hm (r_cons ha (r_cons hb r_nil hs2) (by rw [hs2]; exact hs)) hs hs2 sc2
theorem gi_zip {e e2 : Expr} {p pos tpos : Pos} {elts : List Expr} {kk : Nat} {fa fb : Rho → O D} (hK : X.K = B.K) (hm : X.mg "zip" = none) (ha : PE X e (tEv B Wx fa)) (hb : PE X e2 (tEv B Wx fb)) (hg : Gl X "zip" := by rfl) (hs : starEach [e, e2] X.env = (false, eval e X.env) :: starEach [e2] X.env := by rfl) (hs2 : starEach [e2] X.env = (false, eval e2 X.env) :: starEach [] X.env := by rfl) (hpl : (backTo pos (starEach [e2] X.env)).any (·.1) = false := by rfl) :
    PI X (.Tuple elts kk tpos) (.Call (.Name "zip" p) [e, e2] [] pos) (tIt B Wx (sZip (sCons fa (sCons fb sNil)))) := ri_zip hK hg hm (r_cons ha (r_cons hb r_nil hs2) hs) hs hpl
theorem gi_enum {e : Expr} {p pos tpos : Pos} {elts : List Expr} {kk : Nat} {fa : Rho → O D} (hK : X.K = B.K) (hm : X.mg "enumerate" = none) (ha : PE X e (tEv B Wx fa)) (hg : Gl X "enumerate" := by rfl) (hs : starEach [e] X.env = [(false, eval e X.env)] := by rfl) :
    PI X (.Tuple elts kk tpos) (.Call (.Name "enumerate" p) [e] [] pos) (tIt B Wx (sEnum (sCons fa sNil))) := ri_enum hK hg hm (r_cons ha r_nil hs) hs
theorem g_callB {id : String} {x : Str} {g : List D → Option D} {e : Expr} {es : List Expr} {p pos : Pos} {fa : Rho → O (List D)} (hc : CallR X (.builtin id) (rC B g)) (hm : X.mg x = none) (ha : PA X (e :: es) (tEs B Wx fa)) (hg : Gl X x := by rfl) (hv : bootBuiltins x = some (.builtin id) := by decide +kernel) (hn : x ≠ "__name__" := by decide) (hdb : (x == ("__debug__" : Str)) = false := by decide)
    (he : starEach (e :: es) X.env = (false, eval e X.env) :: starEach es X.env := by rfl) (hpl : (backTo pos (starEach es X.env)).any (·.1) = false := by rfl) : PE X (.Call (.Name x p) (e :: es) [] pos) (tEv B Wx (sCall g fa)) := r_callB hc hg hm hv ha hn hdb he hpl
theorem g_callTy {id : String} {x : Str} {g : List D → Option D} {e : Expr} {es : List Expr} {p pos : Pos} {fa : Rho → O (List D)} (hc : CallR X (.type id) (rC B g)) (hm : X.mg x = none) (ha : PA X (e :: es) (tEs B Wx fa)) (hg : Gl X x := by rfl) (hv : bootBuiltins x = some (.type id) := by decide +kernel) (hn : x ≠ "__name__" := by decide) (hdb : (x == ("__debug__" : Str)) = false := by decide)
    (he : starEach (e :: es) X.env = (false, eval e X.env) :: starEach es X.env := by rfl) (hpl : (backTo pos (starEach es X.env)).any (·.1) = false := by rfl) : PE X (.Call (.Name x p) (e :: es) [] pos) (tEv B Wx (sCall g fa)) := r_callTy hc hg hm hv ha hn hdb he hpl
theorem g_isi {e : Expr} {T : String} {t : Str} {p q pos : Pos} {fa : Rho → O D} (hK : X.K = B.K) (hm : X.mg "isinstance" = none) (hmt : X.mg t = none) (he : PE X e (tEv B Wx fa)) (hT : tyKnown T = true := by decide) (hvt : bootBuiltins t = some (.type T) := by decide +kernel) (hg : Gl X "isinstance" := by rfl) (hgt : Gl X t := by rfl) (hnt : t ≠ "__name__" := by decide) (hdt : (t == ("__debug__" : Str)) = false := by decide)
    (hs : starEach [e, .Name t q] X.env = (false, eval e X.env) :: starEach [.Name t q] X.env := by rfl) : PE X (.Call (.Name "isinstance" p) [e, .Name t q] [] pos) (tEv B Wx (sIsi fa T)) := r_isi hK hT hg hm hgt hmt hvt hnt hdt he hs
theorem g_listOf {e : Expr} {p pos : Pos} {fa : Rho → O D} (hK : X.K = B.K) (hm : X.mg "list" = none) (ha : PE X e (tEv B Wx fa)) (hg : Gl X "list" := by rfl) (he : starEach [e] X.env = (false, eval e X.env) :: starEach [] X.env := by rfl) : PE X (.Call (.Name "list" p) [e] [] pos) (tEo B Wx (sListOf (sCons fa sNil))) := r_listOf hK hg hm (r_cons ha r_nil he) he
theorem g_sorted {e : Expr} {p pos : Pos} {fa : Rho → O D} (hK : X.K = B.K) (hc : X.calm = true) (hm : X.mg "sorted" = none) (ha : PE X e (tEv B Wx fa)) (hg : Gl X "sorted" := by rfl) (he : starEach [e] X.env = (false, eval e X.env) :: starEach [] X.env := by rfl) :
    PE X (.Call (.Name "sorted" p) [e] [] pos) (tEo B Wx (sSorted (sCons fa sNil))) := r_sorted hK hc hg hm (r_cons ha r_nil he) he
theorem g_sortSet {e : Expr} {p p2 q2 pos : Pos} {fa : Rho → O D} (hK : X.K = B.K) (hc : X.calm = true) (hu : X.A.units + 65 < cLine) (hm : X.mg "sorted" = none) (hm2 : X.mg "set" = none) (ha : PE X e (tEv B Wx fa)) (hg : Gl X "sorted" := by rfl) (hg2 : Gl X "set" := by rfl) (he : starEach [e] X.env = (false, eval e X.env) :: starEach [] X.env := by rfl)
    (he2 : starEach [.Call (.Name "set" p2) [e] [] q2] X.env = (false, eval (.Call (.Name "set" p2) [e] [] q2) X.env) :: starEach [] X.env := by rfl) : PE X (.Call (.Name "sorted" p) [.Call (.Name "set" p2) [e] [] q2] [] pos) (tEo B Wx (sSetS (sCons fa sNil))) := r_sortSet hK hc hu hg hm hg2 hm2 (r_cons ha r_nil he) he he2
theorem g_lenSet {e : Expr} {p p2 q2 pos : Pos} {fa : Rho → O D} (hK : X.K = B.K) (hc : X.calm = true) (hm : X.mg "len" = none) (hm2 : X.mg "set" = none) (ha : PE X e (tEv B Wx fa)) (hg : Gl X "len" := by rfl) (hg2 : Gl X "set" := by rfl) (he : starEach [e] X.env = (false, eval e X.env) :: starEach [] X.env := by rfl)
    (he2 : starEach [.Call (.Name "set" p2) [e] [] q2] X.env = (false, eval (.Call (.Name "set" p2) [e] [] q2) X.env) :: starEach [] X.env := by rfl) : PE X (.Call (.Name "len" p) [.Call (.Name "set" p2) [e] [] q2] [] pos) (tEv B Wx (sSetN (sCons fa sNil))) := r_lenSet hK hc hg hm hg2 hm2 (r_cons ha r_nil he) he he2
theorem g_callD {lv n : Nat} {x : Str} {f : FSem} {e : Expr} {es : List Expr} {p pos : Pos} {fa : Rho → O (List D)} (hK : X.K = B.K) (F : FnGood B X.prog X.w X.mg X.base lv x n f) (hr : Room lv X.A) (tk : L2N.Takes X Wx) (ha : PA X (e :: es) (tEs B Wx fa)) (hg : Gl X x := by rfl) (hdb : (x == ("__debug__" : Str)) = false := by decide)
    (he : starEach (e :: es) X.env = (false, eval e X.env) :: starEach es X.env := by rfl) (hpl : (backTo pos (starEach es X.env)).any (·.1) = false := by rfl) : PE X (.Call (.Name x p) (e :: es) [] pos) (tEv B Wx (sCallD f fa)) := r_callD hK F hr hg tk ha hdb he hpl
theorem g_callO {lv n : Nat} {x : Str} {f : FSem} {e : Expr} {es : List Expr} {p pos : Pos} {fa : Rho → O (List D)} (hK : X.K = B.K) (F : FnGood B X.prog X.w X.mg X.base lv x n f) (hr : Room lv X.A) (tk : L2N.Takes X Wx) (ha : PA X (e :: es) (tEs B Wx fa)) (hg : Gl X x := by rfl) (hdb : (x == ("__debug__" : Str)) = false := by decide)
    (he : starEach (e :: es) X.env = (false, eval e X.env) :: starEach es X.env := by rfl) (hpl : (backTo pos (starEach es X.env)).any (·.1) = false := by rfl) : PE X (.Call (.Name x p) (e :: es) [] pos) (tEo B Wx (sCallO f fa)) := r_callO hK F hr hg tk ha hdb he hpl
theorem g_callK {lv n : Nat} {x : Str} {f : FSem} {e : Expr} {es : List Expr} {p pos : Pos} {fa : Rho → O (List D)} (hK : X.K = B.K) (F : FnGood B X.prog X.w X.mg X.base lv x n f) (hr : Room lv X.A) (tk : L2N.Takes X Wx) (ha : PA X (e :: es) (tEs B Wx fa)) (hg : Gl X x := by rfl) (hdb : (x == ("__debug__" : Str)) = false := by decide)
    (he : starEach (e :: es) X.env = (false, eval e X.env) :: starEach es X.env := by rfl) (hpl : (backTo pos (starEach es X.env)).any (·.1) = false := by rfl) : PE X (.Call (.Name x p) (e :: es) [] pos) (tEk B Wx (sCallK f fa)) := r_callK hK F hr hg tk ha hdb he hpl
theorem g_callR (i : Nat) {lv n : Nat} {x y : Str} {f : FSem} {es : List Expr} {p py pos : Pos} {fa : Rho → O (List D)} (hK : X.K = B.K) (F : FnGood B X.prog X.w X.mg X.base lv x n f) (hr : Room lv X.A) (tk : L2N.Takes X Wx) (ha : PA X es (tEs B Wx fa)) (hg : Gl X x := by rfl) (hN : X.N[i]? = some y := by rfl) (hv : Vis X.env.scope y := by first | exact .inl rfl | exact .inr (.inl rfl) | exact .inr (.inr rfl)) (hd : (y == ("__debug__" : Str)) = false := by decide) (hcd : (y == ("__classdict__" : Str)) = false := by decide) (hdb : (x == ("__debug__" : Str)) = false := by decide)
    (he : starEach (.Name y py :: es) X.env = (false, eval (.Name y py) X.env) :: starEach es X.env := by rfl) (hpl : (backTo pos (starEach es X.env)).any (·.1) = false := by rfl) : PE X (.Call (.Name x p) (.Name y py :: es) [] pos) (tEv B Wx (sCallR f i fa)) := r_callR hK F hr hg tk hN hv hd hcd ha hdb he hpl
theorem gq_expr {e : Expr} {pos : Pos} {fa : Rho → O Rf.D} (he : PE X e (tEv B Wx fa)) (hs : swapsWith e none pos.line X.env = pure false := by rfl) : PS X (.Expr e pos) (tSt B Wx (sExpr fa)) := q_expr he hs
theorem gq_asg {tg e : Expr} {t : Tg} {pos : Pos} {fa : Rho → O Rf.D} (he : PE X e (tEv B Wx fa)) (hg : PG X tg (tTg B t)) (hs : swapsWithSole [tg] e pos.line X.env = pure false := by rfl) (hw : swappedStores [tg] e X.env = pure none := by rfl) (h1 : (assignEach [tg] X.env).map (·.2) = [assign tg X.env] := by rfl) : PS X (.Assign [tg] e pos) (tSt B Wx (sAsg t fa)) := q_asg he hg hs hw h1
theorem gq_asgO (i : Nat) {x : Str} {e : Expr} {px pos : Pos} {fa : Rho → O (List Rf.D)} (hN : X.N.Nodup) (he : PE X e (tEo B Wx fa)) (hi : X.N[i]? = some x := by rfl) (hx : Loc X.env.scope x := by first | exact .inl rfl | exact .inr rfl) (hf : X.fn x = true ∨ X.env.scope.names.lookup x = some .local := by first | exact .inl rfl | exact .inr rfl)
    (hs : swapsWith e (some (.Name x px)) pos.line X.env = pure false := by rfl) : PS X (.Assign [.Name x px] e pos) (tSt B Wx (sAsgO i fa)) := q_asgO hN hi hx hf he hs
theorem gq_asgK (i : Nat) {x : Str} {e : Expr} {px pos : Pos} {fa : Rho → O (List (List Int))} (hN : X.N.Nodup) (he : PE X e (tEk B Wx fa)) (hi : X.N[i]? = some x := by rfl) (hx : Loc X.env.scope x := by first | exact .inl rfl | exact .inr rfl) (hf : X.fn x = true ∨ X.env.scope.names.lookup x = some .local := by first | exact .inl rfl | exact .inr rfl)
    (hs : swapsWith e (some (.Name x px)) pos.line X.env = pure false := by rfl) : PS X (.Assign [.Name x px] e pos) (tSt B Wx (sAsgK i fa)) := q_asgK hN hi hx hf he hs
theorem gq_par (i j : Nat) {x y : Str} {a b : Expr} {px py pt : Pos} {kt k2 : Nat} {pt2 pos : Pos} {fa fb : Rho → O Rf.D} (hc : X.calm = true) (hN : X.N.Nodup) (ha : PE X a (tEv B Wx fa)) (hb : PE X b (tEv B Wx fb)) (hi : X.N[i]? = some x := by rfl) (hj : X.N[j]? = some y := by rfl) (hij : i ≠ j := by decide) (hx : X.env.scope.names.lookup x = some .local := by rfl) (hy : X.env.scope.names.lookup y = some .local := by rfl)
    (hsa : starEach [a, b] X.env = (false, eval a X.env) :: starEach [b] X.env := by rfl) (hsb : starEach [b] X.env = (false, eval b X.env) :: starEach [] X.env := by rfl)
    (hw : swappedStores [.Tuple [.Name x px, .Name y py] kt pt] (.Tuple [a, b] k2 pt2) X.env = pure (some [x, y]) := by rfl) (hs : swapsWithSole [.Tuple [.Name x px, .Name y py] kt pt] (.Tuple [a, b] k2 pt2) pos.line X.env = pure false := by rfl) : PS X (.Assign [.Tuple [.Name x px, .Name y py] kt pt] (.Tuple [a, b] k2 pt2) pos) (tSt B Wx (sPar i j (sCons fa (sCons fb sNil)))) :=
  q_par hc hN hi hj hij hx hy (r_cons ha (r_cons hb r_nil hsb) hsa) hw hs
theorem gq_parO (i j : Nat) {x y : Str} {a b : Expr} {px py pt : Pos} {kt k2 : Nat} {pt2 pos : Pos} {fa : Rho → O Rf.D} {fb : Rho → O (List Rf.D)} (hc : X.calm = true) (hN : X.N.Nodup) (ha : PE X a (tEv B Wx fa)) (hb : PE X b (tEo B Wx fb)) (hi : X.N[i]? = some x := by rfl) (hj : X.N[j]? = some y := by rfl) (hij : i ≠ j := by decide) (hx : X.env.scope.names.lookup x = some .local := by rfl) (hy : X.env.scope.names.lookup y = some .local := by rfl)
    (hsa : starEach [a, b] X.env = (false, eval a X.env) :: starEach [b] X.env := by rfl) (hsb : starEach [b] X.env = (false, eval b X.env) :: starEach [] X.env := by rfl)
    (hw : swappedStores [.Tuple [.Name x px, .Name y py] kt pt] (.Tuple [a, b] k2 pt2) X.env = pure (some [x, y]) := by rfl) (hs : swapsWithSole [.Tuple [.Name x px, .Name y py] kt pt] (.Tuple [a, b] k2 pt2) pos.line X.env = pure false := by rfl) : PS X (.Assign [.Tuple [.Name x px, .Name y py] kt pt] (.Tuple [a, b] k2 pt2) pos) (tSt B Wx (sParO i j fa fb)) :=
  q_parO hc hN hi hj hij hx hy ha hb hsa hsb hw hs
theorem gq_item (i : Nat) {x : Str} {ei e : Expr} {px ps pos : Pos} {fi fe : Rho → O Rf.D} (hi : PE X ei (tEv B Wx fi)) (he : PE X e (tEv B Wx fe)) (hN : X.N[i]? = some x := by rfl) (hv : Vis X.env.scope x := by first | exact .inl rfl | exact .inr (.inl rfl) | exact .inr (.inr rfl)) (hd : (x == ("__debug__" : Str)) = false := by decide) (hcd : (x == ("__classdict__" : Str)) = false := by decide)
    (ha : ∀ v, assign (.Subscript (.Name x px) ei ps) X.env v = (do let ov ← holding [v] (eval (.Name x px) X.env); let iv ← holding [v, ov] (eval ei X.env); standAt ps; holding [v, ov, iv] (setItem ov iv v); release [v, ov, iv] []) := by intro _; rfl)
    (hs : swapsWithSole [.Subscript (.Name x px) ei ps] e pos.line X.env = pure false := by rfl) (hw : swappedStores [.Subscript (.Name x px) ei ps] e X.env = pure none := by rfl) (h1 : (assignEach [.Subscript (.Name x px) ei ps] X.env).map (·.2) = [assign (.Subscript (.Name x px) ei ps) X.env] := by rfl) : PS X (.Assign [.Subscript (.Name x px) ei ps] e pos) (tSt B Wx (sItem i fi fe)) := q_item hN hv hd hcd hi he ha hs hw h1
theorem gq_app (i : Nat) {x : Str} {e : Expr} {px apos cpos pos : Pos} {fe : Rho → O Rf.D} (he : PE X e (tEv B Wx fe)) (hN : X.N[i]? = some x := by rfl) (hv : Vis X.env.scope x := by first | exact .inl rfl | exact .inr (.inl rfl) | exact .inr (.inr rfl)) (hd : (x == ("__debug__" : Str)) = false := by decide) (hcd : (x == ("__classdict__" : Str)) = false := by decide) (hs : starEach [e] X.env = (false, eval e X.env) :: starEach [] X.env := by rfl)
    (hfew : ((backTo cpos (starEach [e] X.env)).all (fun x => !x.1) && (backToKw cpos (keywordEach [] X.env)).all (fun x => x.1.isSome) && decide ([e].length + ([] : List Keyword).length + (if ([] : List Keyword).isEmpty then 0 else 1) < 30)) = true := by rfl) (hline : (apos.endLine == cpos.line) = true := by rfl)
    (hsw : swapsWith (.Call (.Attribute (.Name x px) "append" apos) [e] [] cpos) none pos.line X.env = pure false := by rfl) : PS X (.Expr (.Call (.Attribute (.Name x px) "append" apos) [e] [] cpos) pos) (tSt B Wx (sApp i fe)) := q_app hN hv hd hcd he hs hfew hline hsw
theorem gq_for {tg iter : Expr} {body : List Stmt} {t : Tg} {pos : Pos} {fi : Rho → O (List Rf.D)} {f : Rho → OS} (hp : PassesOwn (model X.prog X.w) X.A X.env X.xe) (hc : X.calm = true) (hi : PI X tg iter (tIt B Wx fi)) (hg : PG X tg (tTg B t)) (hb : PSs X body (tSt B Wx f)) (hfs : ∀ x, foldedSetIterable iter X.env x = pure x := by intro _; rfl) :
    PS X (.For tg iter body [] pos) (tSt B Wx (sFor t fi f)) := q_for hp hc hi hg hb hfs
abbrev PBl (X : Cx) (scope : Scope) (P : Cx → Prop) : Prop := ∀ (s : Shared) (H : Hp) (C : Addr) (cl : List (Str × Addr)) (fp : List Addr), P (X.blk s H scope (compEnvC scope cl C X.env) fp)
theorem g_lc (own : List (Str × Nat)) {elt tg iter : Expr} {ifs : List Expr} {scope : Scope} {pos : Pos} {t : Tg} {fi : Rho → O (List D)} {fc fe : Rho → O D} (hc : X.calm = true) (hN : X.N.Nodup) (hi : PI X tg iter (tIt B Wx fi)) (hg : PBl X scope fun Y => PG Y tg (tTg B t)) (hf : PBl X scope fun Y => PTs Y ifs (tEt B wNo fc)) (he : PBl X scope fun Y => PE Y elt (tEv B wNo fe))
    (ok : blkC X.N X.env.scope scope own = true := by kernel_rfl) (ht : ∀ i ∈ t.slots, i ∈ own.map (·.2) := by decide) (hs : ∀ x, foldedSetIterable iter X.env x = pure x := by intro _; rfl) : PE X (.ListComp elt [⟨tg, iter, ifs, 0⟩] scope pos) (tEo B Wx (sLc t (own.map (·.2)) fi fc fe)) := r_lc hc hN hi (blkOk_by ok) ht hg hf he hs
theorem gq_lc (i : Nat) (own : List (Str × Nat)) {y : Str} {py : Pos} {elt tg iter : Expr} {ifs : List Expr} {scope : Scope} {pos spos : Pos} {t : Tg} {fi : Rho → O (List D)} {fc fe : Rho → O D} (hc : X.calm = true) (hN : X.N.Nodup) (hi : PI X tg iter (tIt B Wx fi)) (hg : PBl X scope fun Y => PG Y tg (tTg B t)) (hf : PBl X scope fun Y => PTs Y ifs (tEt B wNo fc)) (he : PBl X scope fun Y => PE Y elt (tEv B wNo fe))
    (hy : X.N[i]? = some y := by rfl) (hyl : X.env.scope.names.lookup y = some .local := by rfl) (hsw : swapsWith (.ListComp elt [⟨tg, iter, ifs, 0⟩] scope pos) (some (.Name y py)) spos.line X.env = pure true := by rfl) (ok : blkC X.N X.env.scope scope own = true := by kernel_rfl) (ht : ∀ i ∈ t.slots, i ∈ own.map (·.2) := by decide) (hs : ∀ x, foldedSetIterable iter X.env x = pure x := by intro _; rfl) :
    PS X (.Assign [.Name y py] (.ListComp elt [⟨tg, iter, ifs, 0⟩] scope pos) spos) (tSt B Wx (sAsg (.nm i) (sFrz (sLc t (own.map (·.2)) fi fc fe)))) := q_lc hc hN hy hyl hsw hi (blkOk_by ok) ht hg hf he hs
theorem g_lc2 (own : List (Str × Nat)) (vs1 : List Nat) {elt tg iter tg1 iter1 : Expr} {ifs ifs1 : List Expr} {scope : Scope} {pos : Pos} {t t1 : Tg} {fi fi1 : Rho → O (List D)} {fc fc1 fe : Rho → O D} (hc : X.calm = true) (hN : X.N.Nodup) (hi : PI X tg iter (tIt B Wx fi)) (hg : PBl X scope fun Y => PG Y tg (tTg B t)) (hf : PBl X scope fun Y => PTs Y ifs (tEt B wNo fc)) (hi1 : PBl X scope fun Y => PI Y tg1 iter1 (tIt B wNo fi1)) (hg1 : PBl X scope fun Y => PG Y tg1 (tTg B t1)) (hf1 : PBl X scope fun Y => PTs Y ifs1 (tEt B wNo fc1)) (he : PBl X scope fun Y => PE Y elt (tEv B wNo fe))
    (ok : blkC X.N X.env.scope scope own = true := by kernel_rfl) (hv : ∀ i ∈ vs1, i ∈ own.map (·.2) := by decide) (ht : ∀ i ∈ t.slots, i ∈ own.map (·.2) := by decide) (ht1 : ∀ i ∈ t1.slots, i ∈ vs1 := by decide) (hs : ∀ x, foldedSetIterable iter X.env x = pure x := by intro _; rfl) (hs1 : ∀ env x, foldedSetIterable iter1 env x = pure x := by intro _ _; rfl) :
    PE X (.ListComp elt [⟨tg, iter, ifs, 0⟩, ⟨tg1, iter1, ifs1, 0⟩] scope pos) (tEo B Wx (sLc2 t (own.map (·.2)) fi fc fi1 t1 vs1 fc1 fe)) := r_lc2 hc hN hi (blkOk_by ok) hv ht ht1 hg hf hi1 hg1 hf1 he hs hs1
theorem room_u {k : Nat} {A : Around} (h : Room k A) : A.units + 65 < cLine := by have := h.un; omega
end Rf

set_option maxRecDepth 100000
set_option maxHeartbeats 4000000
namespace Rf
open PySem PySem.Spec PyProof.Rows L2
/-- a def that the text's top binds -/
structure Def1 (B : Bs) (mg : Str → Option Value) (x : Str) (st : Stmt) (ps : List Str) : Prop where
  ex : ∃ a fd, Fun B.K x x st a fd ∧ Binds B.K fd ps [] ∧ mg x = some (.ref a)
section
variable {B : Bs} {P : Program} {w : World} {mg : Str → Option Value} {base : Heap}
theorem good_D1 {x : Str} {st : Stmt} {N ps : List Str} {k : Nat} {fn : Rho → OS} (d : Def1 B mg x st ps) (S : FnScope N ps (defScope st))
    (hbody : ∀ (f : Addr) (cdv : Value) (A : Around) (outer : List Env) (s : Shared) (H : Hp) (E : XK), Room k (A.deeper (envOfC x (defScope st) s.heap.objs.size f cdv)) →
      PSs (cxOf (L2N.CX P w) P w B.K mg base N x (defScope st) f cdv A outer s H E) (defBody st) (tSt B (wishOf E) fn)) : FnGood B P w mg base (k + 1) x ps.length (mD (runD ps.length N.length fn)) :=
  let ⟨a, fd, F, hb, hm⟩ := d.ex
  good_D F S hb hm (hbody a)
theorem good_R1 {x : Str} {st : Stmt} {N ps : List Str} {k : Nat} {fn : Rho → OS} (d : Def1 B mg x st ps) (S : FnScope N ps (defScope st))
    (hbody : ∀ (f : Addr) (cdv : Value) (A : Around) (outer : List Env) (s : Shared) (H : Hp) (E : XK), Room k (A.deeper (envOfC x (defScope st) s.heap.objs.size f cdv)) →
      PSs (cxOf (L2N.CX P w) P w B.K mg base N x (defScope st) f cdv A outer s H E) (defBody st) (tSt B (wishOf E) fn)) : FnGood B P w mg base (k + 1) x ps.length (mR (runR ps.length N.length fn)) :=
  let ⟨a, fd, F, hb, hm⟩ := d.ex
  good_R F S hb hm (hbody a)
end
end Rf

set_option maxRecDepth 100000
set_option maxHeartbeats 4000000
namespace Rf
open PySem PySem.Spec PyProof.Rows L2
/-! ### dicts whose keys are tuples of ints -/
theorem tupV (ns : List Int) : (ns.map (Sum.inl : Int → Key)).map kV = ns.map V.int := by rw [List.map_map]; rfl
theorem inl_inj {ns ms : List Int} (h : ns.map (Sum.inl : Int → Key) = ms.map Sum.inl) : ns = ms := by
  induction ns generalizing ms with
  | nil => cases ms with
    | nil => rfl
    | cons m ms => cases h
  | cons n ns ih => cases ms with
    | nil => cases h
    | cons m ms =>
      rw [List.map_cons, List.map_cons] at h
      injection h with h1 h2
      injection h1 with h1
      rw [h1, ih h2]
abbrev dkL (ks : List (List Int)) : List (List Key × V) := ks.map fun k => (k.map Sum.inl, V.bl true)
theorem dk_val (ns : List Int) : ∀ ks : List (List Int), valV (dkL ks) (ns.map Sum.inl) = if ns ∈ ks then some (V.bl true) else none
  | [] => rfl
  | k :: ks => by
    unfold valV dkL
    rw [List.map_cons, List.find?_cons]
    by_cases e : k = ns
    · subst e
      rw [if_pos List.mem_cons_self]
      simp
    · have e1 : ¬ (k.map (Sum.inl : Int → Key) = ns.map Sum.inl) := fun z => e (inl_inj z)
      have e2 := dk_val ns ks
      unfold valV dkL at e2
      simp only [e1, decide_false]
      rw [e2]
      by_cases m : ns ∈ ks
      · rw [if_pos m, if_pos (List.mem_cons_of_mem _ m)]
      · rw [if_neg m, if_neg (fun z => by rcases List.mem_cons.mp z with z | z; exact e z.symm; exact m z)]
def putL (ks : List (List Int)) (ns : List Int) : List (List Int) := if ns ∈ ks then ks else ks ++ [ns]
theorem dk_put (ks : List (List Int)) (ns : List Int) : putK (dkL ks) (ns.map Sum.inl) (V.bl true) = dkL (putL ks ns) := by
  have ha : ((dkL ks).any fun kv => decide (kv.1 = ns.map Sum.inl)) = decide (ns ∈ ks) := by
    rw [Bool.eq_iff_iff, List.any_eq_true, decide_eq_true_iff]
    constructor
    · rintro ⟨kv, h1, h2⟩
      obtain ⟨k, hk, rfl⟩ := List.mem_map.mp h1
      rw [← inl_inj (of_decide_eq_true h2)]; exact hk
    · intro h
      exact ⟨_, List.mem_map.mpr ⟨ns, h, rfl⟩, decide_eq_true rfl⟩
  unfold putK putL
  rw [ha]
  by_cases m : ns ∈ ks
  · rw [if_pos (decide_eq_true m), if_pos m]
    unfold dkL
    rw [List.map_map]
    refine List.map_congr_left fun k hk => ?_
    show (if k.map Sum.inl = ns.map Sum.inl then _ else _) = _
    split <;> rfl
  · rw [if_neg (by simpa using m), if_neg m]
    unfold dkL
    rw [List.map_append]; rfl
section
variable {B : Bs} {S : Sit} {ρ : Rho} {σ : St} {H G : Hp}
/-- the dict of a slot is changed -/
theorem EnvOk.redct (E : EnvOk B S ρ σ H G) {i : Nat} {ks ks' : List (List Int)} {a : Addr} (h : ρ[i]? = some (some (.dct ks))) (ha : σ[i]? = some (some (.ref a))) : EnvOk B S (ρ.set i (some (.dct ks'))) σ (upd H a (dkOf ks')) G := by
  obtain ⟨a', k1, k2, k3, k4⟩ := E.dct i ks h
  rw [ha] at k1; cases k1
  have hl : i < ρ.length := (List.getElem?_eq_some_iff.mp h).1
  have hh : ∀ {j : Nat} {l : List Rf.D}, Hd (ρ.set i (some (.dct ks'))) j l → i ≠ j ∧ Hd ρ j l := fun {j l} h => h.of_set fun m => ⟨(fun z => nomatch z), (fun z => nomatch z)⟩
  exact {
    sub := fun b o e => by rw [upd_ne (ne_of_none e k3)]; exact E.sub b o e
    nt := E.nt
    sz := E.sz
    j := B.js H _ E.j fun b o e n n2 => by
      rw [upd_ne]
      · exact e
      · intro z; rw [z, k2] at e; exact n2 ks (Option.some.inj e).symm
    keep := fun b o e n t => by
      rw [upd_ne (fun z => n (by rw [z]; exact k4))]
      exact E.keep b o e n t
    there := fun b e => by
      by_cases q : b = a
      · rw [q, upd_same] at e; cases e
      · rw [upd_ne q] at e; exact E.there b e
    gsub := E.gsub
    gnew := E.gnew
    len := by rw [List.length_set]; exact E.len
    dat := fun j d h => by
      rcases get_set h with ⟨_, z⟩ | ⟨q, z⟩
      · cases z
      · exact E.dat j d z
    dct := fun j ks2 h2 => by
      rcases get_set h2 with ⟨q, z⟩ | ⟨q, z⟩
      · subst q; cases z
        exact ⟨a, ha, upd_same, k3, k4⟩
      · exact absurd (E.dnq i j ks ks2 h z) q
    raw := fun j v h => by
      rcases get_set h with ⟨_, z⟩ | ⟨q, z⟩
      · cases z
      · exact E.raw j v z
    rel := fun j k d h => by
      rcases get_set h with ⟨_, z⟩ | ⟨q, z⟩
      · cases z
      · exact E.rel j k d z
    dnq := fun j k ks1 ks2 h1 h2 => by
      have q : ∀ {j : Nat} {ks0 : List (List Int)}, (ρ.set i (some (.dct ks')))[j]? = some (some (C.dct ks0)) → i = j := fun {j ks0} h3 => by
        rcases get_set h3 with ⟨q, _⟩ | ⟨_, z⟩
        · exact q
        · exact E.dnq i j ks ks0 h z
      rw [← q h1, ← q h2]
    held := fun j l h => by
      obtain ⟨q, z⟩ := hh h
      obtain ⟨c, vs, m1, m2, m3, m4, m5⟩ := E.held j l z
      refine ⟨c, vs, m1, ?_, m3, m4, m5⟩
      rw [upd_ne]
      · exact m2
      · intro z; rw [z, k2] at m2; exact dk_lst _ (Option.some.inj m2)
    ref := fun j l h => by
      rcases get_set h with ⟨_, z⟩ | ⟨q, z⟩
      · cases z
      · exact E.ref j l z
    sep := fun j k l m hjk h1 h2 => E.sep j k l m hjk (hh h1).2 (hh h2).2
    isref := fun j l h' => by
      obtain ⟨l', h''⟩ := E.isref j l h'
      by_cases q : i = j
      · subst q; rw [h] at h''; cases h''
      · exact ⟨l', by rw [List.getElem?_set_ne q]; exact h''⟩ }
end
section
variable {B : Bs} {Wx : WX} {X : Cx}
def dctAt (ρ : Rho) (i : Nat) : Option (List (List Int)) := match ρ[i]? with
  | some (some (.dct ks)) => some ks
  | _ => none
theorem dctAt_eq {ρ : Rho} {i : Nat} {ks : List (List Int)} (h : dctAt ρ i = some ks) : ρ[i]? = some (some (.dct ks)) := by
  unfold dctAt at h
  split at h
  · rename_i k e; cases h; exact e
  · cases h
/-- return name, a dict -/
def sRetK (i : Nat) : Rho → OS := fun ρ => match dctAt ρ i with
  | some ks => .retK ks ρ
  | none => .no
theorem q_retK (i : Nat) {x : Str} {p pos : Pos} (hN : X.N[i]? = some x := by rfl) (hv : Vis X.env.scope x := by first | exact .inl rfl | exact .inr (.inl rfl) | exact .inr (.inr rfl)) (hd : (x == ("__debug__" : Str)) = false := by decide) (hcd : (x == ("__classdict__" : Str)) = false := by decide) :
    PS X (.Return (some (.Name x p)) pos) (tSt B Wx (sRetK i)) :=
  (ps_ret (pe_var hN hv hd hcd)).imp' fun D σ H ⟨S, ρ, G, E, P⟩ => by
    unfold sRetK at P
    cases e : dctAt ρ i with
    | none => rw [e] at P; exact False.elim P
    | some ks =>
      rw [e] at P
      obtain ⟨a, h1, h2, h3, h4⟩ := E.dct i ks (dctAt_eq e)
      exact ⟨_, h1, P σ H G E Le.refl a h2 h3 h4⟩
/-- len(name), a dict -/
def sLenK (i : Nat) : Rho → O Rf.D := fun ρ => match dctAt ρ i with
  | some ks => .ok (.int ks.length) ρ
  | none => .no
theorem g_lenK (i : Nat) {x : Str} {p p2 pos : Pos} (hm : X.mg "len" = none) (hg : Gl X "len" := by rfl) (hN : X.N[i]? = some x := by rfl) (hv : Vis X.env.scope x := by first | exact .inl rfl | exact .inr (.inl rfl) | exact .inr (.inr rfl)) (hd : (x == ("__debug__" : Str)) = false := by decide) (hcd : (x == ("__classdict__" : Str)) = false := by decide)
    (he : starEach [.Name x p2] X.env = (false, eval (.Name x p2) X.env) :: starEach [] X.env := by rfl) : PE X (.Call (.Name "len" p) [.Name x p2] [] pos) (tEv B Wx (sLenK i)) :=
  (pe_callB call_len_dT hg hm (by decide +kernel) (pa_cons (pe_var hN hv hd hcd) pa_nil he) (by decide) (by decide) he (by rfl)).imp' fun σ H Q ⟨S, ρ, G, E, P⟩ => by
    unfold sLenK at P
    cases e : dctAt ρ i with
    | none => rw [e] at P; exact False.elim P
    | some ks =>
      rw [e] at P
      obtain ⟨a, h1, h2, h3, h4⟩ := E.dct i ks (dctAt_eq e)
      refine ⟨_, h1, a, dkL ks, rfl, h2, ?_⟩
      have := P H G E Le.refl (.int ks.length) (.int _)
      unfold dkL; rw [List.length_map]
      exact this
/-- (e, ..) not in name -/
def sNotK (i : Nat) (fa : Rho → O (List Rf.D)) : Rho → O Rf.D := fun ρ => (fa ρ).bind fun ds ρ1 => match intsOf ds, dctAt ρ1 i with
  | some ns, some ks => if ns.length ≤ 1000 then .ok (.bool (!decide (ns ∈ ks))) ρ1 else .no
  | _, _ => .no
theorem gt_notK (i : Nat) {es : List Expr} {k : Nat} {x : Str} {tp p pos : Pos} {fa : Rho → O (List Rf.D)} (hu : X.A.units + 65 < cLine) (ha : PA X es (tEs B Wx fa)) (hN : X.N[i]? = some x := by rfl) (hv : Vis X.env.scope x := by first | exact .inl rfl | exact .inr (.inl rfl) | exact .inr (.inr rfl)) (hd : (x == ("__debug__" : Str)) = false := by decide) (hcd : (x == ("__classdict__" : Str)) = false := by decide)
    (hb : behindInMarks .NotIn (.Name x p) = false := by rfl) : PT X (.Compare (.Tuple es k tp) [.NotIn] [.Name x p] pos) (tEt B Wx (sNotK i fa)) :=
  (pt_cmp (pc_dnotin (by omega) (pe_tup ha) (pe_var hN hv hd hcd)) hb).imp' fun σ H Q ⟨S, ρ, G, E, P⟩ => by
    refine ⟨S, ρ, G, E, P.bind.imp fun ds ρ1 H1 G1 E1 le1 q vs hvs => ?_⟩
    split at q
    · rename_i ns ks en ek
      split at q
      · rename_i hl
        have ed := intsOf_eq en
        subst ed
        have ev := DpAll.ints hvs
        subst ev
        refine ⟨by rw [List.length_map, line_eq]; omega, fun b hb' => ?_⟩
        have E2 := E1.fresh (o := .tup (ns.map V.int)) hb'
        obtain ⟨a, h1, h2, h3, h4⟩ := E2.dct i ks (dctAt_eq ek)
        refine ⟨_, h1, a, _, rfl, .inr ⟨dkL ks, ns.map Sum.inl, b, .inl h2, rfl, by rw [tupV]; exact upd_same, rfl⟩, ?_⟩
        rw [dk_val]
        have e3 : (!(if ns ∈ ks then some (V.bl true) else none : Option V).isSome) = !decide (ns ∈ ks) := by
          by_cases m : ns ∈ ks
          · rw [if_pos m, decide_eq_true m]; rfl
          · rw [if_neg m, decide_eq_false m]; rfl
        rw [e3]
        obtain ⟨b', e4, q⟩ := q _ G1 E2 Le.refl
        cases e4
        exact ⟨_, rfl, q⟩
      · exact False.elim q
    · exact False.elim q
/-- name[e, ..] = True -/
def sPutK (i : Nat) (fa : Rho → O (List Rf.D)) : Rho → OS := fun ρ => match dctAt ρ i with
  | none => .no
  | some _ => (fa ρ).run fun ds ρ1 => match intsOf ds, dctAt ρ1 i with
    | some ns, some ks => if ns.length ≤ 1000 ∧ ks.length < 1000000 then .nx (ρ1.set i (some (.dct (putL ks ns)))) else .no
    | _, _ => .no
theorem gq_putK (i : Nat) {es : List Expr} {k j : Nat} {x : Str} {tp p p2 ps pos : Pos} {fa : Rho → O (List Rf.D)} (hu : X.A.units + 65 < cLine) (ha : PA X es (tEs B Wx fa)) (hN : X.N[i]? = some x := by rfl) (hv : Vis X.env.scope x := by first | exact .inl rfl | exact .inr (.inl rfl) | exact .inr (.inr rfl)) (hd : (x == ("__debug__" : Str)) = false := by decide) (hcd : (x == ("__classdict__" : Str)) = false := by decide)
    (hs : swapsWith (.Constant (.bool true) j p2) (some (.Subscript (.Name x p) (.Tuple es k tp) ps)) pos.line X.env = pure false := by rfl) : PS X (.Assign [.Subscript (.Name x p) (.Tuple es k tp) ps] (.Constant (.bool true) j p2) pos) (tSt B Wx (sPutK i fa)) :=
  (ps_dput (by omega) (pe_var hN hv hd hcd) (pe_tup ha) pe_bl hs).imp' fun D σ H ⟨S, ρ, G, E, P⟩ => by
    unfold sPutK at P
    cases e0 : dctAt ρ i with
    | none => rw [e0] at P; exact False.elim P
    | some ks0 =>
      rw [e0] at P
      obtain ⟨a, hv, _⟩ := E.dct i ks0 (dctAt_eq e0)
      refine ⟨_, hv, S, ρ, G, E, P.run.imp fun ds ρ1 H1 G1 E1 le1 q vs hvs => ?_⟩
      split at q
      · rename_i ns ks en ek
        split at q
        · rename_i hl
          have ed := intsOf_eq en
          subst ed
          have ev := DpAll.ints hvs
          subst ev
          refine ⟨by rw [List.length_map, line_eq]; omega, fun b hb' => ?_⟩
          have E2 := E1.fresh (o := .tup (ns.map V.int)) hb'
          obtain ⟨a', h1, h2, h3, h4⟩ := E2.dct i ks (dctAt_eq ek)
          rw [hv] at h1; cases h1
          refine ⟨a, _, rfl, .inr ⟨dkL ks, ns.map Sum.inl, b, h2, rfl, by rw [tupV]; exact upd_same, by unfold dkL; rw [List.length_map, line_eq]; omega, rfl⟩, ?_⟩
          rw [dk_put]
          exact q σ _ G1 (E2.redct (dctAt_eq ek) hv) Le.refl
        · exact False.elim q
      · exact False.elim q
end
end Rf

set_option maxRecDepth 100000
set_option maxHeartbeats 4000000
namespace Rf
open PySem PySem.Spec PyProof.Rows L2
section
variable {B : Bs} {Wx : WX} {X : Cx}
/-- {(i, j): True} -/
def sDisp (ns : List Int) : Rho → O (List (List Int)) := fun ρ => .ok [ns] ρ
theorem g_disp2 {i j : Int} {k1 k2 kk k4 : Nat} {p1 p2 p3 p4 pos : Pos} (hu : X.A.units + 65 < cLine) (hs : starEach [.Constant (.int i) k1 p1, .Constant (.int j) k2 p2] X.env = (false, eval (.Constant (.int i) k1 p1) X.env) :: starEach [.Constant (.int j) k2 p2] X.env := by rfl) (hs2 : starEach [.Constant (.int j) k2 p2] X.env = (false, eval (.Constant (.int j) k2 p2) X.env) :: starEach [] X.env := by rfl) :
    PE X (.Dict [some (.Tuple [.Constant (.int i) k1 p1, .Constant (.int j) k2 p2] kk p3)] [.Constant (.bool true) k4 p4] pos) (tEk B Wx (sDisp [i, j])) := by
  refine ⟨fun pins s σ H Q I ⟨S, ρ, G, E, P⟩ => ?_⟩
  have hn := I.hok.fresh (Nat.le_refl s.heap.objs.size)
  have I1 := I.laid (a := s.heap.objs.size) (o := .dT []) (h' := s.heap.push { cls := .type "dict", data := .dict #[] }) (t' := s.toks) (fun _ _ q => Heap.get?_push_of_some _ q) (Nat.le_refl _) (dt_empty s.heap I.big)
  refine wpAny_Dict_any (by rfl) rfl (by simp) (by simp) ?_
  refine thn ((pps_cons (pe_tup (pa_cons pe_int (pa_cons pe_int pa_nil hs2) hs)) pe_bl pps_nil).run pins _ σ _ (fun ps H2 => ∃ b, ps = [(V.ref b, V.bl true)] ∧ (upd H s.heap.objs.size (.dT [])) b = none ∧ H2 = upd (upd H s.heap.objs.size (.dT [])) b (.tup [.int i, .int j])) I1 ⟨?_, fun b hb => ⟨b, rfl, hb, rfl⟩⟩) fun ws s2 ⟨ps, H2, I2, rel, b, eps, hb, eH⟩ => ?_
  · show 2 ≤ sizeLine
    rw [line_eq]; omega
  · subst eps
    subst eH
    have nbd : b ≠ s.heap.objs.size := fun z => by
      rw [z, upd_same] at hb; cases hb
    cases rel with
    | @cons p q ps qs r t =>
      cases t
      obtain ⟨r1, r2⟩ := r
      obtain ⟨q1, q2⟩ := q
      obtain rfl : q1 = Value.ref b := r1
      unfold storeAll
      rw [List.forIn_cons]
      have eb : (upd (upd H s.heap.objs.size (.dT [])) b (.tup [.int i, .int j])) b = some (.tup ([Sum.inl i, Sum.inl j].map kV)) := upd_same
      have ed : (upd (upd H s.heap.objs.size (.dT [])) b (.tup [.int i, .int j])) s.heap.objs.size = some (.dT []) := by rw [upd_ne (Ne.symm nbd)]; exact upd_same
      obtain ⟨z, hd, xs, rel, dd⟩ := dt_of I2.hok ed
      have hz : xs.length ≤ sizeLine := by rw [← Paired.length rel]; exact z
      have hl : (putK ([] : List (List Key × V)) [Sum.inl i, Sum.inl j] (.bl true)).length ≤ sizeLine := by
        show 1 ≤ sizeLine
        rw [line_eq]; omega
      refine wpAny_bind (wpAny_bind (wpAny_dictSet_heap (hsz := hz) (show X.A.units < cLine by omega) (key_of I2.hok eb) dd fun h' dd' hs => wpAny_pure ?_))
      show wpAny _ _ (forIn [] PUnit.unit _) _ _ _
      rw [List.forIn_nil]
      refine wpAny_pure ?_
      obtain ⟨o, es, ep, hq, h2, h3, h4, _, h5⟩ := dd'
      refine ⟨.ref s.heap.objs.size, _, d_write (ob := .dT (putK ([] : List (List Key × V)) [Sum.inl i, Sum.inl j] (.bl true))) I2 (by rw [ed]; exact True.intro) hs ⟨o, hq⟩ ⟨hl, hd, _, (rel.put [Sum.inl i, Sum.inl j] eb (show RelV (.bl true) q2 from r2)).keeps fun c ys ec => ?_, o, es, ep, hq, h2, h3, h4, h5⟩, rfl, ?_⟩
      · rw [upd_ne (ne_of ec ed (fun z => nomatch z))]
        exact ec
      · have eH : upd (upd (upd H s.heap.objs.size (.dT [])) b (.tup [.int i, .int j])) s.heap.objs.size (.dT (putK ([] : List (List Key × V)) [Sum.inl i, Sum.inl j] (.bl true))) = upd (upd H s.heap.objs.size (dkOf [[i, j]])) b (.tup [.int i, .int j]) := by
          funext c
          by_cases h1 : c = s.heap.objs.size
          · subst h1
            rw [upd_same, upd_ne (Ne.symm nbd), upd_same]; rfl
          · rw [upd_ne h1]
            by_cases h2 : c = b
            · subst h2; rw [upd_same, upd_same]
            · rw [upd_ne h2, upd_ne h2, upd_ne h1, upd_ne h1]
        rw [eH]
        have hb0 : (upd H s.heap.objs.size (dkOf [[i, j]])) b = none := by
          rw [upd_ne nbd] at hb ⊢; exact hb
        have E2 := (E.fresh (o := dkOf [[i, j]]) hn).fresh (o := .tup [.int i, .int j]) hb0
        exact P _ G E2 Le.refl s.heap.objs.size (by rw [upd_ne (Ne.symm nbd)]; exact upd_same) (E.gnone hn) (S.wn _ (E.there _ hn))
theorem EnvOk.looseK {S : Sit} {ρ : Rho} {σ : St} {H G : Hp} (E : EnvOk B S ρ σ H G) {p : Addr} {ks : List (List Int)} (hp : H p = some (dkOf ks)) : Loose ρ σ p := fun i l h z => by
  obtain ⟨a, vs, h1, h2, _⟩ := E.held i l h
  rw [z] at h1; cases h1
  rw [hp] at h2
  exact dk_lst _ (Option.some.inj h2)
/-- x, y = a dict, a value -/
def sParK (i j : Nat) (fk : Rho → O (List (List Int))) (fb : Rho → O Rf.D) : Rho → OS := fun ρ => (fk ρ).run fun ks ρ1 => if noDct ρ1 ρ1.length = true then (fb ρ1).run fun d ρ2 => match (dctN i ks ρ2).bind (bindN j d) with
    | some ρ3 => .nx ρ3
    | none => .no
  else .no
theorem gq_parK (i j : Nat) {x y : Str} {a b : Expr} {px py pt : Pos} {kt k2 : Nat} {pt2 pos : Pos} {fk : Rho → O (List (List Int))} {fb : Rho → O Rf.D} (hc : X.calm = true) (hN : X.N.Nodup) (ha : PE X a (tEk B Wx fk)) (hb : PE X b (tEv B Wx fb)) (hi : X.N[i]? = some x := by rfl) (hj : X.N[j]? = some y := by rfl) (hij : i ≠ j := by decide) (hx : X.env.scope.names.lookup x = some .local := by rfl) (hy : X.env.scope.names.lookup y = some .local := by rfl)
    (hsa : starEach [a, b] X.env = (false, eval a X.env) :: starEach [b] X.env := by rfl) (hsb : starEach [b] X.env = (false, eval b X.env) :: starEach [] X.env := by rfl)
    (hw : swappedStores [.Tuple [.Name x px, .Name y py] kt pt] (.Tuple [a, b] k2 pt2) X.env = pure (some [x, y]) := by rfl) (hs : swapsWithSole [.Tuple [.Name x px, .Name y py] kt pt] (.Tuple [a, b] k2 pt2) pos.line X.env = pure false := by rfl) : PS X (.Assign [.Tuple [.Name x px, .Name y py] kt pt] (.Tuple [a, b] k2 pt2) pos) (tSt B Wx (sParK i j fk fb)) :=
  (ps_par hc hN hi hj hij hx hy (pa_cons ha (pa_cons hb pa_nil hsb) hsa) hw hs).imp' fun D σ H ⟨S, ρ, G, E, P⟩ => by
    refine ⟨S, ρ, G, E, P.run.imp fun ks ρ1 H1 G1 E1 le1 q p h1 h2 h3 => ?_⟩
    split at q
    rotate_left
    · exact False.elim q
    rename_i nd
    have nd' : ∀ (i : Nat) (ks : List (List Int)), ρ1[i]? = some (some (C.dct ks)) → σ[i]? ≠ some (some (V.ref p)) := fun i ks h _ => by
      have e := noDct_eq nd h
      have hl := (List.getElem?_eq_some_iff.mp h).1
      omega
    refine ⟨Rf.reb ρ1 σ H1 G1, ρ1, G1, E1.reb, ?_⟩
    have qr := q.run (σ := σ)
    cases eb : fb ρ1 with
    | no => rw [eb] at qr; exact qr.elim
    | ex e ρ2 =>
      rw [eb] at qr
      exact fun cls a H2 G2 E2 le2 ex => qr cls a H2 G2 (E1.unreb E2) le2 ex
    | ok d ρ2 =>
      rw [eb] at qr
      intro H2 G2 E2 le2 w hw
      obtain ⟨k1, k2⟩ := E2.reb_keep h1 dk_tbl h2 (E1.looseK h1) nd'
      have E3 := E1.unreb E2
      have q2 := qr H2 G2 E3 le2
      dsimp only at q2
      cases e1 : Rf.dctN i ks ρ2 with
      | none => rw [e1] at q2; exact False.elim q2
      | some ρ3 =>
        rw [e1] at q2
        have q2 : PostS B S Wx G2 (match Rf.bindN j d ρ3 with | some ρ3 => .nx ρ3 | none => .no) D := q2
        cases e2 : Rf.bindN j d ρ3 with
        | none => rw [e2] at q2; exact False.elim q2
        | some ρ4 =>
          rw [e2] at q2
          exact ⟨.ref p, w, rfl, q2 _ H2 G2 ((E3.dctN e1 k1 k2 h3).bindN e2 hw) Le.refl⟩
/-- [pair[c] for pair in name], name a dict -/
def sLcK (i j c : Nat) : Rho → O (List Rf.D) := fun ρ => match dctAt ρ i with
  | some ks => if (ks.all fun k => decide (c < k.length)) = true ∧ ks.length ≤ 1000000 ∧ j < ρ.length then .ok (ks.map fun k => PyData.int (k.getD c 0)) ρ else .no
  | none => .no
theorem g_lcK (i j c : Nat) {x y : Str} {k1 : Nat} {p1 p2 p3 p4 p5 pos : Pos} {scope : Scope} (hc : X.calm = true) (hN : X.N.Nodup) (hNi : X.N[i]? = some x := by rfl) (hNj : X.N[j]? = some y := by rfl)
    (hv : Vis X.env.scope x := by first | exact .inl rfl | exact .inr (.inl rfl) | exact .inr (.inr rfl)) (hd : (x == ("__debug__" : Str)) = false := by decide) (hcd : (x == ("__classdict__" : Str)) = false := by decide) (hd2 : (y == ("__debug__" : Str)) = false := by decide) (hcd2 : (y == ("__classdict__" : Str)) = false := by decide)
    (ok : blkC X.N X.env.scope scope [(y, j)] = true := by kernel_rfl) (hg : PBl X scope fun Y => Loc Y.env.scope y ∧ (Y.fn y = true ∨ Y.env.scope.names.lookup y = some .local) := by exact fun _ _ _ _ _ => ⟨by first | exact .inl rfl | exact .inr rfl, by first | exact .inl rfl | exact .inr rfl⟩)
    (hs : ∀ z, foldedSetIterable (.Name x p4) X.env z = pure z := by intro _; rfl) :
    PE X (.ListComp (.Subscript (.Name y p1) (.Constant (.int c) k1 p2) p3) [⟨.Name y p5, .Name x p4, [], 0⟩] scope pos) (tEo B Wx (sLcK i j c)) :=
  (pe_lock (pe_lc hc hN (pi_keys (pe_var hNi hv hd hcd)) (blkOk_by ok) (fun s H C cl fp => pg_name hN hNj (hg s H C cl fp).1 (hg s H C cl fp).2) (fun _ _ _ _ _ => pts_nil)
    (fun s H C cl fp => pe_ix (X := X.blk s H scope (compEnvC scope cl C X.env) fp) (r := rIxT X.K) ix_tup (pe_var (X := X.blk s H scope (compEnvC scope cl C X.env) fp) hNj ((hg s H C cl fp).1.imp id .inl) hd2 hcd2) pe_int fun _ _ => rfl) hs)).imp' fun σ H Q ⟨S, ρ, G, E, P⟩ => by
    unfold sLcK at P
    cases e0 : dctAt ρ i with
    | none => rw [e0] at P; exact False.elim P
    | some ks =>
      rw [e0] at P
      dsimp only at P
      split at P
      rotate_left
      · exact False.elim P
      rename_i hk
      obtain ⟨hk, hkl, hjr⟩ := hk
      obtain ⟨a, h1, h2, h3, h4⟩ := E.dct i ks (dctAt_eq e0)
      refine ⟨a, dkOf ks, h2, True.intro, fun od => ?_⟩
      refine ⟨_, h1, a, od, rfl, .inr ⟨dkL ks, upd_same, fun Dl hD => ?_⟩⟩
      have naD : a ≠ Dl := fun z => by rw [← z, upd_same] at hD; cases hD
      have hD0 : H Dl = none := by rw [upd_ne (Ne.symm naD)] at hD; exact hD
      refine ⟨fun i m H' => m = ks.length - i ∧ i ≤ ks.length ∧ H' = upd (upd H a (.frz od (dkOf ks))) Dl (.lst ((ks.take i).map fun k => V.int (k.getD c 0))), ⟨ks.length, by simp, Nat.zero_le _, rfl⟩, ?_⟩
      rintro n m H' ⟨rfl, hn, rfl⟩
      have ha' : ∀ l, (upd (upd H a (.frz od (dkOf ks))) Dl l) a = some (.frz od (.dT (dkL ks))) := fun l => by rw [upd_ne naD, upd_same]; rfl
      by_cases hlt : n < ks.length
      · refine .inr ⟨⟨ha' _, by unfold dkL; rw [List.length_map]; exact hlt⟩, fun H' => ks.length - (n + 1) = ks.length - (n + 1) ∧ n + 1 ≤ ks.length ∧ H' = upd (upd H a (.frz od (dkOf ks))) Dl (.lst ((ks.take (n + 1)).map fun k => V.int (k.getD c 0))), fun H' w => ⟨_, by omega, w⟩, fun xv H' hy => ?_⟩
        obtain ⟨rfl, k, v, q, g1, rfl, g2⟩ := hy
        have hkn : k = ks[n].map Sum.inl := by
          unfold dkL at g1
          rw [List.getElem?_map, List.getElem?_eq_getElem hlt] at g1
          injection g1 with g1
          injection g1 with g1 _
          exact g1.symm
        have hjl : j < (wipe σ [j]).length := by rw [wipe_length, ← E.len]; exact hjr
        have hcl : c < ks[n].length := of_decide_eq_true (List.all_eq_true.mp hk _ (List.getElem_mem hlt))
        show wipe ((wipe σ [j]).set j (some (.ref q))) [j] = wipe σ [j] ∧ _
        refine ⟨wipe_ext (by rw [List.length_set, wipe_length]) fun z hz => ?_, ?_⟩
        · have hz' : j ≠ z := fun e => hz (by rw [e]; exact List.mem_singleton.mpr rfl)
          rw [List.getElem?_set_ne hz', wipe_out hz]
        · refine Exists.intro (V.ref q) ⟨List.getElem?_set_self hjl, q, k.map kV, (c : Int), V.int (ks[n].getD c 0), rfl, rfl, SqT.of g2, ?_, (ks.take n).map fun k => V.int (k.getD c 0), upd_same, ?_, rfl, hlt, ?_⟩
          · rw [hkn, tupV]
            refine atI_nat ?_
            rw [List.getElem?_map, List.getElem?_eq_getElem hcl, List.getD_eq_getElem?_getD, List.getElem?_eq_getElem hcl]; rfl
          · rw [List.length_map, List.length_take, line_eq]; omega
          · rw [upd_upd, List.take_succ_eq_append_getElem hlt, List.map_append]; rfl
      · have e : n = ks.length := by omega
        subst e
        refine .inl ⟨⟨ha' _, by unfold dkL; rw [List.length_map]; exact Nat.le_refl _⟩, ha' _, ?_⟩
        rw [List.take_length]
        have eH : upd (upd (upd H a (.frz od (dkOf ks))) Dl (.lst (ks.map fun k => V.int (k.getD c 0)))) a (dkOf ks) = upd H Dl (.lst (ks.map fun k => V.int (k.getD c 0))) := by
          funext z
          by_cases q : z = a
          · subst q; rw [upd_same, upd_ne naD]; exact h2.symm
          · rw [upd_ne q]
            by_cases q2 : z = Dl
            · subst q2; rw [upd_same, upd_same]
            · rw [upd_ne q2, upd_ne q, upd_ne q2]
        rw [eH]
        obtain ⟨m1, m2, m3, m4, m5⟩ := E.newl (vs := ks.map fun k => V.int (k.getD c 0)) hD0
        refine P _ G m1 Le.refl Dl _ m2 m3 m4 m5 (by rw [List.length_map, line_eq]; omega) ?_
        have : (ks.map fun k => V.int (k.getD c 0)) = (ks.map fun k => k.getD c 0).map V.int := by rw [List.map_map]; rfl
        rw [this]
        have : (ks.map fun k => PyData.int (k.getD c 0)) = (ks.map fun k => k.getD c 0).map PyData.int := by rw [List.map_map]; rfl
        rw [this]
        exact DpAll.of_ints _
end
end Rf

set_option maxRecDepth 100000
set_option maxHeartbeats 4000000
namespace Rf
open PySem PySem.Spec PyProof.Rows L2
/-! ### a law's entry -/
def Bk (K : PySem.W.Frag) : Bs := ⟨K, fun _ => True, fun _ _ _ _ => True.intro, fun _ _ _ _ => False, fun _ _ _ _ => False, fun _ z => z⟩
theorem spOf_law {K : PySem.W.Frag} {m : List D → FD} {H : Hp} {a : Addr} {ns : List Int} (hO : Only H) (hS : SqL K H a (ns.map V.int)) (hl : ns.length ≤ 63) (h : m [.list (ns.map .int)] = .ret (.bool true)) :
    spOf (Bk K) (mD m) [.ref a] H (fun v _ => v = .bl true) fun _ _ _ => False := by
  let Pz : Prop := ∃ o, H a = some (.frz o (.lst (ns.map V.int)))
  obtain ⟨G0, hG, hS'⟩ : ∃ G0 : Hp, (∀ b o, G0 b = some o → b = a ∧ H a = some o ∧ Pz) ∧ SqL K G0 a (ns.map V.int) := by
    rcases hS with (r | ⟨o, r⟩) | r
    · rcases hO a with z | ⟨o', xs, z⟩
      · rw [z] at r; cases r
      · rw [z] at r; cases r
    · refine ⟨fun b => if b = a then H a else none, fun b o' e => ?_, .inl (.inr ⟨o, ?_⟩)⟩
      · dsimp only at e
        split at e
        · exact ⟨by assumption, e, o, r⟩
        · cases e
      · show (if a = a then H a else none) = _
        rw [if_pos rfl]; exact r
    · exact ⟨fun _ => none, fun b o e => (nomatch e), .inr r⟩
  have hsz : ∀ o, H a = some o → Pz → szO o := fun o e ⟨o2, z⟩ => by
    rw [z] at e; cases e
    show (ns.map V.int).length ≤ sizeLine
    rw [List.length_map, line_eq]; omega
  refine ⟨G0, [.dat (.list (ns.map .int))], fun i l e => ?_, fun i l e => ?_, ?_, ?_⟩
  · match i, e with
    | 0, e => cases e
    | i + 1, e => simp at e
  · match i, e with
    | 0, e => cases e
    | i + 1, e => simp at e
  · have hc : ∀ (i : Nat) c, (argsR [C.dat (.list (ns.map .int))])[i]? = some (some c) → i = 0 ∧ c = .dat (.list (ns.map .int)) := fun i c e => by
      match i, e with
      | 0, e => cases e; exact ⟨rfl, rfl⟩
      | i + 1, e => simp [argsR] at e
    exact {
      sub := fun b o e => by obtain ⟨rfl, e, _⟩ := hG b o e; exact e
      nt := fun b ps e => by
        obtain ⟨rfl, e, _⟩ := hG b _ e
        rcases hO b with z | ⟨o', xs, z⟩
        · rw [z] at e; cases e
        · rw [z] at e; cases e
      sz := fun b o e => by obtain ⟨rfl, e, z⟩ := hG b o e; exact hsz o e z
      j := True.intro
      keep := fun b o e _ _ => e
      there := fun b e => e
      gsub := fun b o e => e
      gnew := fun b o e => .inl e
      len := rfl
      dat := fun i d e => by
        obtain ⟨rfl, e⟩ := hc i _ e
        cases e
        exact ⟨.ref a, rfl, .lst hS' (DpAll.of_ints ns)⟩
      dct := fun i ks e => by obtain ⟨_, e⟩ := hc i _ e; cases e
      raw := fun i v e => by obtain ⟨_, e⟩ := hc i _ e; cases e
      rel := fun i k d e => by obtain ⟨_, e⟩ := hc i _ e; cases e
      dnq := fun i j ks ks' e _ => by obtain ⟨_, e⟩ := hc i _ e; cases e
      held := fun i l e => by
        rcases e with e | e
        · obtain ⟨_, e⟩ := hc i _ e; cases e
        · obtain ⟨_, e⟩ := hc i _ e; cases e
      ref := fun i l e => by obtain ⟨_, e⟩ := hc i _ e; cases e
      sep := fun i j l m _ e _ => by
        rcases e with e | e
        · obtain ⟨_, e⟩ := hc i _ e; cases e
        · obtain ⟨_, e⟩ := hc i _ e; cases e
      isref := fun i l e => by obtain ⟨_, e⟩ := hc i _ e; cases e }
  · have e : mD m [.dat (.list (ns.map .int))] = .ret (.bool true) [.dat (.list (ns.map .int))] := by
      unfold mD
      rw [show datsOf [C.dat (.list (ns.map .int))] = some [.list (ns.map .int)] from rfl]
      dsimp only
      rw [h]
    rw [e]
    intro v H' G' _ hv
    cases hv
    rfl
end Rf

set_option maxRecDepth 100000
set_option maxHeartbeats 4000000
namespace Rf
open PySem PySem.Spec PyProof.Rows L2
/-! ### errors of the program's own: how they lie, raise -/
abbrev veBases : List Value := [.type "ValueError", .type "Exception", .type "BaseException", .type "object"]
/-- what is kept of an error in the air -/
def EXc (cl : Str → Option Addr) (cm : Addr) : Exc → Value → Option Addr → Hp → Prop
  | .own nm, cls, d, _ => ∃ C, cl nm = some C ∧ cls = .ref C ∧ d = none
  | .many i, cls, d, H => cls = .ref cm ∧ ∃ (dd : Addr) (fs : List (Str × V)), d = some dd ∧ H dd = some (.xd fs) ∧ fs.lookup ("limit" : Str) = some (V.int i)
/-- an error object held as a value: the class C, its arguments' tuple at t0 -/
def ExS (C a t0 : Addr) : HO := .ext fun h => h.get? a = some ({ cls := .ref C, dict := none, data := .fields #[.ref t0, .none, .none, .none, .bool false, .none] } : Obj)
def excV (cl : Str → Option Addr) (cm : Addr) (d : PyData) (G : Hp) (v : V) : Prop := match d with
  | .tuple [.str nm, .str m] => ∃ a C t0, v = .ref a ∧ cl nm = some C ∧ G a = some (ExS C a t0) ∧ G t0 = some (.tup [.str m])
  | .int i => ∃ a dx, v = .ref a ∧ G a = some (exo a cm (some dx)) ∧ G dx = some (exd dx [("limit", .int i)])
  | _ => False
theorem excV_up {cl : Str → Option Addr} {cm : Addr} {d : PyData} {G G' : Hp} {v : V} (k : ∀ b o, G b = some o → G' b = some o) (h : excV cl cm d G v) : excV cl cm d G' v := by
  unfold excV at h ⊢
  split at h
  · obtain ⟨a, C, t0, h1, h2, h3, h4⟩ := h
    exact ⟨a, C, t0, h1, h2, k _ _ h3, k _ _ h4⟩
  · obtain ⟨a, dx, h1, h2, h3⟩ := h
    exact ⟨a, dx, h1, k _ _ h2, k _ _ h3⟩
  · exact h
/-- 0: an error; 1: a list of such -/
def relE (cl : Str → Option Addr) (cm : Addr) (k : Nat) (d : PyData) (G : Hp) (v : V) : Prop := match k, d with
  | 0, d => excV cl cm d G v
  | 1, .list ds => ∃ a vs, v = .ref a ∧ G a = some (.lst vs) ∧ vs.length = ds.length ∧ ∀ (i : Nat) d u, ds[i]? = some d → vs[i]? = some u → excV cl cm d G u
  | _, _ => False
theorem relE_up {cl : Str → Option Addr} {cm : Addr} {n : Nat} {d : PyData} {G G' : Hp} {v : V} (k : ∀ b o, G b = some o → G' b = some o) (h : relE cl cm n d G v) : relE cl cm n d G' v := by
  unfold relE at h ⊢
  split at h
  · exact excV_up k h
  · obtain ⟨a, vs, h1, h2, h3, h4⟩ := h
    exact ⟨a, vs, h1, k _ _ h2, h3, fun i d u e1 e2 => excV_up k (h4 i d u e1 e2)⟩
  · exact h
/-- a law with errors and lambdas: K the written part, T the tables of code objects, cl the classes by name, cm the class with a limit -/
def Be (K : PySem.W.Frag) (T : List (Addr × Str)) (cl : Str → Option Addr) (cm : Addr) : Bs where
  K := K
  J := LamX.Tabs T
  js := fun H H' t k p hp => by
    obtain ⟨ps, h1, h2, h3⟩ := t p hp
    refine ⟨ps, k _ _ h1 (fun xs z => by cases z) (fun ks z => by unfold dkOf at z; cases z), h2, fun pos cv hc => ?_⟩
    obtain ⟨c, e1, e2⟩ := h3 pos cv hc
    exact ⟨c, e1, k _ _ e2 (fun xs z => by unfold LamX.CodeO at z; cases z) (fun ks z => by unfold LamX.CodeO dkOf at z; cases z)⟩
  EX := EXc cl cm
  RV := relE cl cm
  rs := relE_up
/-- an own error class without its own __init__ -/
structure OwnE (B : Bs) (mg : Str → Option Value) (x : Str) : Prop where
  ex : ∃ C, mg x = some (.ref C) ∧ PySem.W.excIn B.K C veBases "ValueError.__new__" = true ∧ PySem.W.keepIn B.K (.ref C) = true ∧ PySem.W.subIn B.K (.ref C) (.type "BaseException") = some true ∧ PySem.W.typeIn B.K (.ref C) = some (.type "type") ∧ ∀ H, B.EX (.own x) (.ref C) none H
def sRaise (x : Str) : Rho → OS := fun ρ => .ex (.own x) ρ
section
variable {X : Cx} {B : Bs} {Wx : WX}
theorem g_raise {x m : Str} {j : Nat} {p p2 pos rpos : Pos} (hK : X.K = B.K) (hc : X.calm = true) (tk : L2N.Takes X Wx) (F : OwnE B X.mg x) (hg : Gl X x := by rfl) (hdb : (x == ("__debug__" : Str)) = false := by decide) :
    PS X (.Raise (some (.Call (.Name x p) [.Constant (.str m) j p2] [] pos)) none rpos) (tSt B Wx (sRaise x)) := by
  obtain ⟨C, h1, h2, h3, h4, h5, h6⟩ := F.ex
  rw [← hK] at h2 h3 h4 h5
  exact (L2N.ps_raise hc tk (L2N.pmk_own PySem.F.excBase_ValueError h2 h1 h3 (raises_own h4 h5) hg hdb)).imp' fun D σ H ⟨S, ρ, G, E, P⟩ => P (.ref C) none σ H G E Le.refl (h6 H)
/-- the class with a limit: its own __init__ -/
structure LimE (B : Bs) (P : Program) (w : World) (mg : Str → Option Value) (base : Heap) (x : Str) (lv : Nat) : Prop where
  ex : ∃ C fI fd, mg x = some (.ref C) ∧ OexC B.K C ∧ PySem.W.findIn B.K (.ref C) "limit" = some none ∧ PySem.W.findIn B.K (.ref C) "__init__" = some (some (.ref fI)) ∧ PySem.W.typeIn B.K (.ref fI) = some (.type "function") ∧
    FnOk P w B.K mg base CX0 lv fI fd ["self", "limit"] (ExN.spTM B.K) ∧ Binds B.K fd ["self", "limit"] [] ∧ ∀ i dd fs H, H dd = some (.xd fs) → fs.lookup ("limit" : Str) = some (V.int i) → B.EX (.many i) (.ref C) (some dd) H
def sLimit (fa : Rho → O Rf.D) : Rho → OS := fun ρ => (fa ρ).run fun d ρ1 => match d with
  | .int i => if i.natAbs < 2 ^ 64 then .ex (.many i) ρ1 else .no
  | _ => .no
theorem g_limit {x : Str} {e : Expr} {p pos rpos : Pos} {lv : Nat} {fa : Rho → O Rf.D} (hK : X.K = B.K) (hc : X.calm = true) (tk : L2N.Takes X Wx) (F : LimE B X.prog X.w X.mg X.base x lv) (hr : Room (lv + 1) X.A) (he : PE X e (tEv B Wx fa)) (hg : Gl X x := by rfl) (hdb : (x == ("__debug__" : Str)) = false := by decide)
    (hs : starEach [e] X.env = (false, eval e X.env) :: starEach [] X.env := by rfl) (hpl : (backTo pos (starEach [] X.env)).any (·.1) = false := by rfl) :
    PS X (.Raise (some (.Call (.Name x p) [e] [] pos)) none rpos) (tSt B Wx (sLimit fa)) := by
  obtain ⟨C, fI, fd, h1, h2, h3, h4, h5, h6, h7, h8⟩ := F.ex
  have h2' := h2
  have h3' := h3
  have h4' := h4
  have h5' := h5
  have h6' := h6
  have h7' := h7
  rw [← hK] at h2 h4 h5 h6 h7
  refine (L2N.ps_raise hc tk (ExN.pmk_oexN (dvs := []) (ds := []) h2 h4 h5 h6 hr h7 .nil pass0 hg h1 (pa_cons he pa_nil hs) hdb hs hpl)).imp' fun D σ H ⟨S, ρ, G, E, P⟩ => ?_
  refine ⟨S, ρ, G, E, P.run.imp fun d ρ1 H1 G1 E1 le1 q v hv => ?_⟩
  split at q
  · rename_i i
    split at q
    · rename_i hi
      cases dint hv
      refine ⟨by simp, fun a ha => ⟨a, C, i, rfl, h2, by rw [hK]; exact h3, hi, upd_same, fun dx hdx ndx => ?_⟩⟩
      refine ⟨rfl, dx, [("limit", .int i)], upd_same, ?_, ?_, ?_⟩
      · rw [upd_ne ndx, upd_same]
      · rw [upd_ne ndx] at hdx; exact hdx
      · have hdx1 : H1 dx = none := by rw [upd_ne ndx] at hdx; exact hdx
        have eH : upd (del (upd (upd (upd H1 a (exo a C none)) dx (exd dx [("limit", .int i)])) a (exo a C (some dx))) a) dx (.xd [("limit", .int i)]) = upd H1 dx (.xd [("limit", .int i)]) := by
          funext b
          by_cases hb : b = dx
          · rw [hb, upd_same, upd_same]
          · rw [upd_ne hb, upd_ne hb]
            by_cases hb2 : b = a
            · rw [hb2, del_same, ha]
            · rw [del_ne hb2, upd_ne hb2, upd_ne hb, upd_ne hb2]
        rw [eH]
        exact q (.ref C) (some dx) σ _ G1 (E1.fresh hdx1) Le.refl (h8 i dx _ _ upd_same rfl)
    · exact False.elim q
  · exact False.elim q
end
end Rf

set_option maxRecDepth 100000
set_option maxHeartbeats 4000000
namespace Rf
open PySem PySem.Spec PyProof.Rows L2
/-! ### texts: join, split -/
def strsOf : List D → Option (List Str)
  | [] => some []
  | .str z :: r => (strsOf r).map (z :: ·)
  | _ :: _ => none
theorem strsOf_eq : ∀ {ds : List D} {ns : List Str}, strsOf ds = some ns → ds = ns.map PyData.str
  | [], ns, h => by simp [strsOf] at h; subst h; rfl
  | .str i :: r, ns, h => by
    cases q : strsOf r with
    | none => simp [strsOf, q] at h
    | some ms =>
      simp [strsOf, q] at h
      subst h
      rw [strsOf_eq q]; rfl
  | .none :: _, _, h | .bool _ :: _, _, h | .int _ :: _, _, h | .list _ :: _, _, h | .tuple _ :: _, _, h | .dict _ :: _, _, h => by simp [strsOf] at h
def dJoin (z : Str) : D → Option D
  | .list ds => (strsOf ds).bind fun ys => if (ys.map (·.length)).sum + ys.length * z.length ≤ 16777216 then some (.str (Txt.join z ys)) else none
  | _ => none
def dSplit (z : Str) : D → Option (List D)
  | .str y => if (y.length == 0) = false ∧ z.length + 2 ≤ 16777216 ∧ (Txt.split z y).length ≤ 16777216 then some ((Txt.split z y).map .str) else none
  | _ => none
/-- a text's method of one argument -/
def sM1 {α : Type} (g : Str → D → Option α) (fa fb : Rho → O D) : Rho → O α := fun ρ => (fa ρ).bind fun x ρ1 => match x with
  | .str z => (fb ρ1).bind fun y ρ2 => lift (g z y) ρ2
  | _ => .no
section
variable {X : Cx} {B : Bs} {Wx : WX}
theorem g_join {o e : Expr} {apos pos : Pos} {fa fb : Rho → O D} (hK : X.K = B.K) (ho : PE X o (tEv B Wx fa)) (he : PE X e (tEv B Wx fb)) (hs : starEach [e] X.env = [(false, eval e X.env)] := by rfl) (hbase : attributeBase o "join" X.env (eval o X.env) = eval o X.env := by rfl) (hline : (apos.endLine == pos.line) = true := by rfl) :
    PE X (.Call (.Attribute o "join" apos) [e] [] pos) (tEv B Wx (sM1 dJoin fa fb)) :=
  (pe_join ho he hs hbase hline).imp' fun σ H Q ⟨S, ρ, G, E, P⟩ => by
    refine ⟨S, ρ, G, E, P.bind.imp fun x ρ1 H1 G1 E1 le1 q1 v hv => ?_⟩
    split at q1
    · rename_i z
      refine ⟨⟨z, dstr hv⟩, S, ρ1, G1, E1, q1.bind.imp fun y ρ2 H2 G2 E2 le2 q2 w hw => ?_⟩
      unfold dJoin at q2
      split at q2
      · rename_i ds
        cases es : strsOf ds with
        | none => simp only [es, Option.bind_none, lift] at q2; exact False.elim q2
        | some ys =>
          simp only [es, Option.bind_some] at q2
          split at q2
          · rename_i hz
            obtain ⟨a, xs, rfl, s1, a1⟩ := dlst hw
            rw [strsOf_eq es] at a1
            refine ⟨z, a, ys, dstr hv, rfl, .inl ?_, hz, q2 H2 G2 E2 Le.refl _ (.str _)⟩
            rw [← a1.strs]
            exact hK ▸ SqL.le E2.sub s1
          · exact False.elim q2
      · exact False.elim q2
    · exact False.elim q1
theorem g_split {o e : Expr} {apos pos : Pos} {fa fb : Rho → O D} (ho : PE X o (tEv B Wx fa)) (he : PE X e (tEv B Wx fb)) (hs : starEach [e] X.env = [(false, eval e X.env)] := by rfl) (hbase : attributeBase o "split" X.env (eval o X.env) = eval o X.env := by rfl) (hline : (apos.endLine == pos.line) = true := by rfl) :
    PE X (.Call (.Attribute o "split" apos) [e] [] pos) (tEo B Wx (sM1 dSplit fa fb)) :=
  (pe_split ho he hs hbase hline).imp' fun σ H Q ⟨S, ρ, G, E, P⟩ => by
    refine ⟨S, ρ, G, E, P.bind.imp fun x ρ1 H1 G1 E1 le1 q1 v hv => ?_⟩
    split at q1
    · rename_i z
      refine ⟨⟨z, dstr hv⟩, S, ρ1, G1, E1, q1.bind.imp fun y ρ2 H2 G2 E2 le2 q2 w hw => ?_⟩
      unfold dSplit at q2
      split at q2
      · rename_i y
        split at q2
        · rename_i hz
          refine ⟨z, y, dstr hv, by rw [dstr hw], hz.1, by rw [line_eq]; exact hz.2.1, fun p hp => ?_⟩
          obtain ⟨F1, F2, F3, F4, F5⟩ := E2.newl (vs := (Txt.split z y).map V.str) hp
          exact q2 _ G2 F1 Le.refl p _ F2 F3 F4 F5 (by rw [List.length_map, line_eq]; exact hz.2.2) (DpAll.of_strs _)
        · exact False.elim q2
      · exact False.elim q2
    · exact False.elim q1
end
/-! ### what is done while an error is handled -/
open HotY HotP L2H HotX
/-- isinstance(e, c), e the handled error at a -/
def sIsx (i : Nat) (a : Addr) (b : Bool) : Rho → O D := fun ρ => match ρ[i]? with
  | some (some (.raw (.ref c))) => if c = a then .ok (.bool b) ρ else .no
  | _ => .no
section
variable {X : Cx} {B : Bs} {Wx : WX}
theorem g_isx (i : Nat) {p : Addr × Obj} {D C' : Addr} {x c : Str} {b : Bool} {p1 p2 p3 pos : Pos} (hp : p ∈ X.pn) (C : ExcC X.K D) (hz : Zc (.ref D) none p.2) (hf : ∃ vs, p.2.data = .fields vs) (hm : X.mg "isinstance" = none) (hc : X.mg c = some (.ref C')) (kit : PySem.W.kitOne X.K (.ref D) (.ref C') = some b)
    (hN : X.N[i]? = some x := by rfl) (hv : Vis X.env.scope x := by first | exact .inl rfl | exact .inr (.inl rfl) | exact .inr (.inr rfl)) (hd : (x == ("__debug__" : Str)) = false := by decide) (hcd : (x == ("__classdict__" : Str)) = false := by decide) (hg : Gl X "isinstance" := by rfl) (hgc : Gl X c := by rfl) (hdc : (c == ("__debug__" : Str)) = false := by decide)
    (hs : starEach [.Name x p2, .Name c p3] X.env = (false, eval (.Name x p2) X.env) :: starEach [.Name c p3] X.env := by rfl) (hs2 : starEach [.Name c p3] X.env = (false, eval (.Name c p3) X.env) :: starEach [] X.env := by rfl) (hpl : (backTo pos (starEach [.Name c p3] X.env)).any (·.1) = false := by rfl) :
    PE X (.Call (.Name "isinstance" p1) [.Name x p2, .Name c p3] [] pos) (tEv B Wx (sIsx i p.1 b)) :=
  (pe_callB (call_isP hp C hz hf) hg hm (by decide +kernel) (pa_cons (pe_var hN hv hd hcd) (pa_cons (pe_glob (v := V.ref C') hgc hc rfl hdc) pa_nil hs2) hs) (by decide) (by decide) hs hpl).imp' fun σ H Q ⟨S, ρ, G, E, P⟩ => by
    unfold sIsx at P
    split at P
    · rename_i c0 hr
      split at P
      · rename_i hc0
        subst hc0
        refine ⟨_, E.raw i _ hr, V.ref C', .ref C', b, rfl, fun u hu => ?_, kit, P H G E Le.refl _ (.bl b)⟩
        exact hu
      · exact False.elim P
    · exact False.elim P
/-- a list, walked -/
theorem ri_itemsS {tg e : Expr} {fa : Rho → O D} (hK : X.K = B.K) (he : PE X e (tEv B Wx fa)) : PIS X tg e (tIt B Wx fun ρ => (fa ρ).bind fun x ρ1 => match x with | .list xs => .ok xs ρ1 | _ => .no) :=
  ⟨fun pins t σ H R J ⟨S, ρ, G, E, P⟩ => (pi_listS he).run pins t σ H R J (by
    refine ⟨S, ρ, G, E, P.bind.imp fun x ρ1 H1 G1 E1 le1 q1 v hv => ?_⟩
    split at q1
    · rename_i xs
      obtain ⟨a, ys, rfl, s1, a1⟩ := dlst hv
      exact ⟨a, rfl, ⟨ys, hK ▸ SqL.le E1.sub s1⟩, q1 H1 G1 E1 Le.refl (by rw [← a1.length]; exact szl E1 s1) _ (feeds_list hK s1 a1)⟩
    · exact False.elim q1)⟩
theorem rg_tupS {is : List Nat} {es : List Expr} {k : Nat} {pos : Pos} (hK : X.K = B.K) (hc : HotS X) (h : PGs X es (tTgs B is)) (hn : (assignEach es X.env).length = is.length := by rfl) (hst : (assignEach es X.env).findIdx? (·.1) = none := by rfl) : PG X (.Tuple es k pos) (tTg B (.tp is)) :=
  (pg_tupS hc h hn hst).imp' fun v σ H Q ⟨S, ρ, G, d, ρ', E, hd, e, q⟩ => by
    cases d with
    | tuple ds =>
      obtain ⟨a, xs, rfl, s1, a1⟩ := dtup hd
      exact ⟨a, xs, rfl, hK ▸ SqT.le E.sub s1, by rw [a1.length]; exact (bindL_len e).symm, S, ρ, G, ds, ρ', E, a1, e, q⟩
    | none => cases e
    | bool _ => cases e
    | int _ => cases e
    | str _ => cases e
    | list _ => cases e
    | dict _ => cases e
abbrev PBlS (X : Cx) (scope : Scope) (F : Cx → Prop) : Prop := ∀ (s : Shared) (H : Hp) (C : Addr) (cl : List (Str × Addr)) (fp : List Addr), HotS (X.blk s H scope (compEnvC scope cl C X.env) fp) → F (X.blk s H scope (compEnvC scope cl C X.env) fp)
theorem g_lcS (own : List (Str × Nat)) {elt tg iter : Expr} {ifs : List Expr} {scope : Scope} {pos : Pos} {t : Tg} {fi : Rho → O (List D)} {fc fe : Rho → O D} (hc : HotS X) (hN : X.N.Nodup) (hi : PIS X tg iter (tIt B Wx fi)) (hg : PBlS X scope fun Y => PG Y tg (tTg B t)) (hf : PBlS X scope fun Y => PTs Y ifs (tEt B wNo fc)) (he : PBlS X scope fun Y => PE Y elt (tEv B wNo fe))
    (ok : blkC X.N X.env.scope scope own = true := by kernel_rfl) (ht : ∀ i ∈ t.slots, i ∈ own.map (·.2) := by decide) (hs : ∀ x, foldedSetIterable iter X.env x = pure x := by intro _; rfl) : PE X (.ListComp elt [⟨tg, iter, ifs, 0⟩] scope pos) (tEo B Wx (sLc t (own.map (·.2)) fi fc fe)) :=
  (pe_lcS hc hN hi (blkOk_by ok) hg hf he hs).imp' fun σ H Q h => lc_read ht h wNo wNo
end
end Rf

set_option maxRecDepth 100000
set_option maxHeartbeats 4000000
namespace Rf
open PySem PySem.Spec PyProof.Rows L2 HotY HotP L2H HotX
/-! ### the word for a handled error -/
/-- all but the tables stays, nothing goes -/
def Ext (B : Bs) (H H' : Hp) : Prop := (∀ b o, H b = some o → (∀ ps, o ≠ .tbl ps) → H' b = some o) ∧ (∀ b, H' b = none → H b = none) ∧ B.J H'
section
variable {B : Bs}
theorem EnvOk.ext {S : Sit} {ρ : Rho} {σ : St} {H G H' : Hp} (E : EnvOk B S ρ σ H G) (x : Ext B H H') : EnvOk B S ρ σ H' G :=
  E.grow x.1 x.2.1 (fun _ _ e => e) (fun _ _ e => .inl e) (fun b o e => x.1 b o (E.sub b o e) fun ps z => E.nt b ps (by rw [e, z])) E.nt E.sz x.2.2
theorem EnvOk.rawArg {S : Sit} {ρ : Rho} {σ : St} {H G : Hp} (E : EnvOk B S ρ σ H G) (v : V) : EnvOk B (Rf.reb (argsR [.raw v]) (argsS [v]) H G) (argsR [.raw v]) (argsS [v]) H G :=
  E.enter rfl (fun i d e => by match i, e with
      | 0, e => cases e
      | i + 1, e => simp at e) (fun i l e => by match i, e with
      | 0, e => cases e
      | i + 1, e => simp at e) (fun i l e => by match i, e with
      | 0, e => cases e
      | i + 1, e => simp at e) (fun i w e => by match i, e with
      | 0, e => cases e; rfl
      | i + 1, e => simp at e) (fun i k d e => by match i, e with
      | 0, e => cases e
      | i + 1, e => simp at e) (fun i l e => by match i, e with
      | 0, e => cases e
      | i + 1, e => simp at e) (fun i j l m e => by match i, e with
      | 0, e => cases e
      | i + 1, e => simp at e)
/-- what _law_kind_of promises: p the handled error, of the class nm -/
def spKind (B : Bs) (cl : Str → Option Addr) (n : Nat) (fn : Addr → (Str → Bool) → Rho → OS) : Addr × Obj → Sp := fun p vs H Q _ => ∃ (nm : Str) (D : Addr) (w : Str) (ρ' : Rho) (S : Sit) (ρ : Rho) (σ : St) (G : Hp), vs = [.ref p.1] ∧ cl nm = some D ∧ Zc (.ref D) none p.2 ∧ (∃ us, p.2.data = .fields us) ∧ EnvOk B S ρ σ H G ∧
  fn p.1 (fun m => m == nm) (start0 n [.raw (.ref p.1)]) = .ret (.str w) ρ' ∧ ∀ H', Ext B H H' → Q (.str w) H'
theorem good_K {P : Program} {w : World} {mg : Str → Option Value} {base : Heap} {cl : Str → Option Addr} {x : Str} {st : Stmt} {f : Addr} {fd : FuncData} {N : List Str} {k : Nat} {fn : Addr → (Str → Bool) → Rho → OS} (F : Fun B.K x x st f fd) (S : FnScope N ["e"] (defScope st))
    (hbody : ∀ (nm : Str) (D : Addr) (cdv : Value) (A : Around) (outer : List Env) (t : Shared) (H : Hp) (E : XK) (p : Addr × Obj), cl nm = some D → Zc (.ref D) none p.2 → (∃ us, p.2.data = .fields us) → HotS (cxH CX0 P w B.K mg base N x (defScope st) f cdv A outer t H E p) → RoomH k (A.deeper (envOfC x (defScope st) t.heap.objs.size f cdv)) →
      PSs (cxH CX0 P w B.K mg base N x (defScope st) f cdv A outer t H E p) (defBody st) (tSt B wNo (fn p.1 fun m => m == nm))) : FnP P w B.K mg base CX0 (k + 1) f fd ["e"] (spKind B cl N.length fn) := by
  have hps : 1 ≤ N.length := by have := congrArg List.length S.pre; rw [List.length_take] at this; simp at this; omega
  obtain ⟨oc, od, kV, dc, pm, an, cdv, ct, osl, rfl, lk, hcd⟩ := F.ex
  refine fn_ofP lk hcd S (fun p vs H Q E h => ?_) fun A outer t H vs Q E p hot hpin hr h => ?_
  · obtain ⟨nm, D, wd, ρ', S1, ρ, σ, G, rfl, _⟩ := h; rfl
  · obtain ⟨nm, D, wd, ρ', S1, ρ, σ, G, rfl, h1, h2, h3, E1, h4, h5⟩ := h
    refine ⟨_, hbody nm D cdv A outer t H E p h1 h2 h3 (hotS_cxH hot hpin) hr, ?_⟩
    have E0 := E1.rawArg (.ref p.1)
    refine ⟨_, _, G, E0.widen hps, ?_⟩
    rw [h4]
    intro σ' H' G' E' le v hv
    rw [dstr hv]
    refine h5 H' ⟨fun b o e nt => E'.keep b o e (fun hw => ?_) nt, fun b e => E'.there b e, E'.j⟩
    have no : ∀ (i : Nat) c, (start0 N.length [C.raw (.ref p.1)])[i]? = some (some c) → c = .raw (.ref p.1) := fun i c hc => by
      have z := start0_inv hc
      match i, z with
      | 0, z => cases z; rfl
      | i + 1, z => simp at z
    rcases hw with hw | ⟨i, l, hw, _⟩ | ⟨i, ks, hw, _⟩
    · have hw : H b = none := hw
      rw [hw] at e; cases e
    · rcases hw with hw | hw
      · cases no i _ hw
      · cases no i _ hw
    · cases no i _ hw
/-- what is wished of an error in the air, where _law_word handles it -/
def Ew (B : Bs) (cl : Str → Option Addr) (cm : Addr) (n : Nat) (fn : Addr → (Str → Bool) → Rho → OS) (Q : VK) : XK := fun cls d H' =>
  (∃ (i : Int) (dd : Addr) (fs : List (Str × V)), cls = .ref cm ∧ d = some dd ∧ H' dd = some (.xd fs) ∧ fs.lookup ("limit" : Str) = some (V.int i) ∧ i.natAbs.log2 < 1000 ∧ Q (.str ("full" ++ (toString i : Str))) H') ∨
  ∃ (nm : Str) (D : Addr) (w : Str) (S : Sit) (ρ : Rho) (σ : St) (G : Hp), cl nm = some D ∧ cls = .ref D ∧ d = none ∧ (∀ a, ∃ ρ', fn a (fun m => m == nm) (start0 n [.raw (.ref a)]) = .ret (.str w) ρ') ∧ EnvOk B S ρ σ H' G ∧ ∀ H'', Ext B H' H'' → Q (.str w) H''
def TTw (B : Bs) (cl : Str → Option Addr) (cm : Addr) (n : Nat) (fn : Addr → (Str → Bool) → Rho → OS) : (XK → Hp → VK → Prop) → Hp → VK → Prop := fun tl H Q => tl (Ew B cl cm n fn Q) H (fun _ H' => ∃ v, (some (some (V.str ""))) = some (some v) ∧ Q v H')
/-- the word of an error -/
def wordOf (kw : Str → Option Str) : Exc → Option Str
  | .own nm => kw nm
  | .many i => if i.natAbs.log2 < 1000 then some ("full" ++ (toString i : Str)) else none
/-- _law_word(lambda: e) -/
def sWord (kw : Str → Option Str) (f : Rho → O D) : Rho → O D := fun ρ => match f ρ with
  | .ok _ ρ1 => .ok (.str "") ρ1
  | .ex e ρ1 => match wordOf kw e with
    | some z => .ok (.str z) ρ1
    | none => .no
  | .no => .no
/-- the words are what the def says -/
structure KwOk (cl : Str → Option Addr) (n : Nat) (fn : Addr → (Str → Bool) → Rho → OS) (kw : Str → Option Str) : Prop where
  ok : ∀ nm z, kw nm = some z → ∀ a, ∃ ρ', fn a (fun m => m == nm) (start0 n [.raw (.ref a)]) = .ret (.str z) ρ'
theorem word_read {K : PySem.W.Frag} {T : List (Addr × Str)} {cl : Str → Option Addr} {cm : Addr} {n : Nat} {fn : Addr → (Str → Bool) → Rho → OS} {kw : Str → Option Str} (W : KwOk cl n fn kw) {Wx : WX} {f : Rho → O D} {σ : St} {H : Hp} {Q : VK} (h : tEv (Be K T cl cm) Wx (sWord kw f) σ H Q) :
    LamN.tLamN T (TTw (Be K T cl cm) cl cm n fn) (fun E => tEv (Be K T cl cm) (wishOf E) f) σ H Q := by
  obtain ⟨S, ρ, G, E, P⟩ := h
  refine ⟨E.j, fun H1 x1 nn T1 => ?_⟩
  have E1 : EnvOk (Be K T cl cm) S ρ σ H1 G := E.ext ⟨x1, nn, T1⟩
  refine ⟨S, ρ, G, E1, ?_⟩
  unfold sWord at P
  cases ef : f ρ with
  | no => rw [ef] at P; exact False.elim P
  | ok d ρ1 =>
    rw [ef] at P
    exact fun H2 G2 E2 le2 v hv => ⟨_, rfl, P H2 G2 E2 le2 _ (.str _)⟩
  | ex e ρ1 =>
    rw [ef] at P
    dsimp only at P
    intro cls d H2 G2 E2 le2 hex
    cases ew : wordOf kw e with
    | none => rw [ew] at P; exact False.elim P
    | some z =>
      rw [ew] at P
      match e, ew, hex with
      | .own nm, ew, hex =>
        obtain ⟨D, h1, h2, h3⟩ := hex
        exact .inr ⟨nm, D, z, S, ρ1, σ, G2, h1, h2, h3, W.ok nm z ew, E2, fun H3 x3 => P H3 G2 (E2.ext x3) le2 _ (.str _)⟩
      | .many i, ew, hex =>
        obtain ⟨h1, dd, fs, h2, h3, h4⟩ := hex
        unfold wordOf at ew
        dsimp only at ew
        by_cases hi : i.natAbs.log2 < 1000
        · rw [if_pos hi] at ew
          have ez := Option.some.inj ew
          rw [← ez] at P
          exact .inl ⟨i, dd, fs, h1, h2, h3, h4, hi, P H2 G2 E2 le2 _ (.str _)⟩
        · rw [if_neg hi] at ew; cases ew
end
end Rf

set_option maxRecDepth 100000
set_option maxHeartbeats 4000000
namespace Rf
open PySem PySem.Spec PyProof.Rows L2 HotY HotP L2H HotX
/-! ### what the written part says of the error classes, asked at once -/
/-- C: a class with a dict, over ValueError -/
def oexB (K : PySem.W.Frag) (C : Addr) : Bool := match K.lookup C with
  | some ⟨.type "type", _, .cls cd, sl⟩ => (match cd.mro, sl.toList with
    | .ref C' :: bm, [_, _, _, _, some (.builtin n), _] => C' == C && n == "ValueError.__new__" && !cd.hasDel && cd.hasDict && PySem.HandSPX.refsVE bm
    | _, _ => false)
  | _ => false
def isErrB (K : PySem.W.Frag) (C : Addr) : Bool := PySem.W.keepIn K (.ref C) && (PySem.W.subIn K (.ref C) (.type "BaseException") == some true && (PySem.W.typeIn K (.ref C) == some (.type "type") && (PySem.W.findIn K (.ref C) "__getattribute__" == some (some (.builtin "BaseException.__getattribute__")) &&
  (PySem.W.findIn K (.ref C) "__getattr__" == some none && (PySem.W.hasDictIn K C && (PySem.W.findIn K (.ref C) "__class__" == some (some (.builtin "object.__class__")) && PySem.W.mroIn K C (.type "object") == some true))))))
def ownB (K : PySem.W.Frag) (L : List (Str × Addr)) (Cs cm : Addr) : Bool := PySem.W.specialIn K (.builtin "object.__class__") "__get__" == some (some (.builtin "getset_descriptor.__get__")) && (PySem.W.takesIn K (.builtin "object.__class__") == some true &&
  L.all fun e => isErrB K e.2 && (PySem.W.excIn K e.2 veBases "ValueError.__new__" && (PySem.W.exmOne K (.ref e.2) (.ref cm) == some false && (PySem.W.exmOne K (.ref e.2) (.ref Cs) == some true && L.all fun d => PySem.W.kitOne K (.ref e.2) (.ref d.2) == some (d.1 == e.1)))))
def limB (K : PySem.W.Frag) (cm fI : Addr) : Bool := isErrB K cm && (oexB K cm && (PySem.W.findIn K (.ref cm) "__setattr__" == some (some (.builtin "object.__setattr__")) && (PySem.W.findIn K (.ref cm) "limit" == some none && (PySem.W.findIn K (.ref cm) "__init__" == some (some (.ref fI)) &&
  (PySem.W.typeIn K (.ref fI) == some (.type "function") && PySem.W.exmOne K (.ref cm) (.ref cm) == some true)))))
theorem oex_of {K : PySem.W.Frag} {C : Addr} (h : oexB K C = true) : ∃ nm q N bs bm sn sub ab col dd k0 k1 k2 k3 k5, K.lookup C = some (excClassObj nm q C N bs bm true sn sub ab col dd k0 k1 k2 k3 k5 "ValueError.__new__") ∧ PySem.HandSPX.refsVE bm = true := by
  unfold oexB at h
  split at h
  · rename_i dd cd sl ho
    split at h
    · rename_i C' bm k0 k1 k2 k3 n k5 hm hs
      simp only [Bool.and_eq_true, beq_iff_eq, Bool.not_eq_true'] at h
      obtain ⟨⟨⟨⟨rfl, rfl⟩, hdel⟩, hdict⟩, hv⟩ := h
      obtain ⟨nm, bs, mro, ns, qn, hd, sn, sub, ab, col, del⟩ := cd
      dsimp only at hm hdel hdict
      subst hm hdel hdict
      have hsl : sl = #[k0, k1, k2, k3, some (.builtin "ValueError.__new__"), k5] := by
        obtain ⟨l⟩ := sl
        simp only at hs
        rw [hs]
      subst hsl
      exact ⟨nm, qn, ns, bs, bm, sn, sub, ab, col, dd, k0, k1, k2, k3, k5, ho, hv⟩
    · cases h
  · cases h
structure IsErr (K : PySem.W.Frag) (C : Addr) : Prop where
  kp : PySem.W.keepIn K (.ref C) = true
  sb : PySem.W.subIn K (.ref C) (.type "BaseException") = some true
  ty : PySem.W.typeIn K (.ref C) = some (.type "type")
  ga : PySem.W.findIn K (.ref C) "__getattribute__" = some (some (.builtin "BaseException.__getattribute__"))
  gg : PySem.W.findIn K (.ref C) "__getattr__" = some none
  hd : PySem.W.hasDictIn K C = true
  cl : PySem.W.findIn K (.ref C) "__class__" = some (some (.builtin "object.__class__"))
  mo : PySem.W.mroIn K C (.type "object") = some true
theorem isErr_of {K : PySem.W.Frag} {C : Addr} (h : isErrB K C = true) : IsErr K C := by
  simp only [isErrB, Bool.and_eq_true, beq_iff_eq] at h
  obtain ⟨h1, h2, h3, h4, h5, h6, h7, h8⟩ := h
  exact ⟨h1, h2, h3, h4, h5, h6, h7, h8⟩
/-- the classes by name -/
def clOf (L : List (Str × Addr)) : Str → Option Addr := fun nm => L.lookup nm
theorem clOf_mem {L : List (Str × Addr)} {nm : Str} {C : Addr} (h : clOf L nm = some C) : (nm, C) ∈ L := by
  unfold clOf at h
  induction L with
  | nil => cases h
  | cons e L ih =>
    obtain ⟨m, D⟩ := e
    rw [List.lookup_cons] at h
    split at h
    · rename_i q
      rw [beq_iff_eq] at q
      cases h; rw [q]; exact List.mem_cons_self
    · exact List.mem_cons_of_mem _ (ih h)
/-- all that is asked of the error classes -/
structure Errs (K : PySem.W.Frag) (mg : Str → Option Value) (L : List (Str × Addr)) (Cs cm : Addr) : Prop where
  mg : ∀ nm C, (nm, C) ∈ L → mg nm = some (.ref C)
  own : ownB K L Cs cm = true
section
variable {K : PySem.W.Frag} {mg : Str → Option Value} {L : List (Str × Addr)} {Cs cm : Addr} {T : List (Addr × Str)}
theorem Errs.at (F : Errs K mg L Cs cm) {nm : Str} {C : Addr} (h : clOf L nm = some C) : IsErr K C ∧ PySem.W.excIn K C veBases "ValueError.__new__" = true ∧ PySem.W.exmOne K (.ref C) (.ref cm) = some false ∧ PySem.W.exmOne K (.ref C) (.ref Cs) = some true ∧
    (∀ m D, (m, D) ∈ L → PySem.W.kitOne K (.ref C) (.ref D) = some (m == nm)) ∧ ExcC K C := by
  have q := F.own
  simp only [ownB, Bool.and_eq_true, beq_iff_eq, List.all_eq_true] at q
  obtain ⟨h1, h2, q⟩ := q
  obtain ⟨k1, k2, k3, k4, k5⟩ := q _ (clOf_mem h)
  have e := isErr_of k1
  exact ⟨e, k2, k3, k4, fun m D hm => k5 _ hm, ⟨e.ga, e.gg, e.sb, e.hd, e.cl, h1, h2, e.mo⟩⟩
theorem Errs.ownE (F : Errs K mg L Cs cm) {nm : Str} {C : Addr} (h : clOf L nm = some C) : OwnE (Be K T (clOf L) cm) mg nm := by
  obtain ⟨e, k2, k3, k4, k5, k6⟩ := F.at h
  exact ⟨C, F.mg nm C (clOf_mem h), k2, e.kp, e.sb, e.ty, fun H => ⟨C, h, rfl, rfl⟩⟩
theorem Errs.kit (F : Errs K mg L Cs cm) {nm m : Str} {C D : Addr} (h : clOf L nm = some C) (hm : (m, D) ∈ L) : ∃ C', mg m = some (.ref C') ∧ PySem.W.kitOne K (.ref C) (.ref C') = some (m == nm) :=
  ⟨D, F.mg m D hm, (F.at h).2.2.2.2.1 m D hm⟩
end
/-- what is asked of the class with a limit -/
structure Lims (K : PySem.W.Frag) (mg : Str → Option Value) (cm fI : Addr) : Prop where
  mg : mg "TooMany" = some (.ref cm)
  lim : limB K cm fI = true
section
variable {K : PySem.W.Frag} {mg : Str → Option Value} {L : List (Str × Addr)} {Cs cm fI : Addr} {T : List (Addr × Str)}
theorem Lims.at (F : Lims K mg cm fI) : IsErr K cm ∧ OexC K cm ∧ PySem.W.findIn K (.ref cm) "limit" = some none ∧ PySem.W.findIn K (.ref cm) "__init__" = some (some (.ref fI)) ∧ PySem.W.typeIn K (.ref fI) = some (.type "function") ∧ PySem.W.exmOne K (.ref cm) (.ref cm) = some true ∧ XfC K cm := by
  have q := F.lim
  simp only [limB, Bool.and_eq_true, beq_iff_eq] at q
  obtain ⟨h1, h2, h3, h4, h5, h6, h7⟩ := q
  have e := isErr_of h1
  exact ⟨e, ⟨oex_of h2, h3, e.sb, e.ty, e.kp⟩, h4, h5, h6, h7, ⟨e.ga, e.gg, e.sb, e.hd⟩⟩
theorem Lims.limE {P : Program} {w : World} {base : Heap} {fd : FuncData} {lv : Nat} (F : Lims K mg cm fI) (h : FnOk P w K mg base CX0 lv fI fd ["self", "limit"] (ExN.spTM K)) (hb : Binds K fd ["self", "limit"] []) : LimE (Be K T (clOf L) cm) P w mg base "TooMany" lv := by
  obtain ⟨e, h1, h2, h3, h4, h5, h6⟩ := F.at
  exact ⟨cm, fI, fd, F.mg, h1, h2, h3, h4, h, hb, fun i dd fs H k1 k2 => ⟨rfl, dd, fs, rfl, k1, k2⟩⟩
end
end Rf

set_option maxRecDepth 100000
set_option maxHeartbeats 4000000
namespace Rf
open PySem PySem.Spec PyProof.Rows L2 HotY HotP L2H HotX LamX
/-! ### defs that make lambdas -/
/-- the name of the lambdas of a def -/
def lamName (x : Str) : Str := x ++ ".<locals>." ++ "<lambda>"
/-- a def of the text whose code object stands at c, its table at P -/
structure DefL (B : Bs) (mg : Str → Option Value) (base : Heap) (Tb : List (Addr × Str)) (x : Str) (st : Stmt) (ps : List Str) : Prop where
  ex : ∃ (a : Addr) (oc : Value) (od : Option Addr) (kV dc pm : Value) (an : Option Addr) (c P : Addr) (ct : Value) (osl : Array (Option Value)),
    B.K.lookup a = some ⟨oc, od, .func (PySem.W.fnOf x x (defArgs st) (defBody st) (defScope st) .none kV dc pm an (.ref c) ct), osl⟩ ∧ PySem.W.codeIn B.K (.ref c) x = true ∧ PySem.W.keepIn B.K (.ref a) = true ∧
    L2.Binds B.K (PySem.W.fnOf x x (defArgs st) (defBody st) (defScope st) .none kV dc pm an (.ref c) ct) ps [] ∧ mg x = some (.ref a) ∧ TabB base mg c P ∧ (P, lamName x) ∈ Tb ∧ ∀ p ∈ Tb, p.1 = P → p.2 = lamName x
theorem DefL.fun1 {B : Bs} {mg : Str → Option Value} {base : Heap} {Tb : List (Addr × Str)} {x : Str} {st : Stmt} {ps : List Str} (d : DefL B mg base Tb x st ps) :
    ∃ (a : Addr) (fd : FuncData) (c P : Addr), Fun B.K x x st a fd ∧ L2.Binds B.K fd ps [] ∧ mg x = some (.ref a) ∧ TabB base mg c P ∧ (P, lamName x) ∈ Tb ∧ (∀ p ∈ Tb, p.1 = P → p.2 = lamName x) ∧
      ∀ (oc : Value) (od : Option Addr) (kV dc pm : Value) (an : Option Addr) (cdv ct : Value) (osl : Array (Option Value)), B.K.lookup a = some ⟨oc, od, .func (PySem.W.fnOf x x (defArgs st) (defBody st) (defScope st) .none kV dc pm an cdv ct), osl⟩ → cdv = .ref c := by
  obtain ⟨a, oc, od, kV, dc, pm, an, c, P, ct, osl, h1, h2, h3, h4, h5, h6, h7, h8⟩ := d.ex
  refine ⟨a, _, c, P, fun_mk h1 h2 h3, h4, h5, h6, h7, h8, fun oc' od' kV' dc' pm' an' cdv' ct' osl' h => ?_⟩
  rw [h1] at h
  have h := Option.some.inj h
  have h := congrArg (fun o : Obj => match o.data with | .func fd => fd.code | _ => .none) h
  exact h.symm
section
variable {B : Bs} {P : Program} {w : World} {mg : Str → Option Value} {base : Heap} {Tb : List (Addr × Str)}
theorem good_DL {x : Str} {st : Stmt} {N ps : List Str} {k : Nat} {fn : Rho → OS} (d : DefL B mg base Tb x st ps) (S : FnScope N ps (defScope st))
    (hbody : ∀ (f c P1 : Addr), TabB base mg c P1 → (P1, lamName x) ∈ Tb → (∀ p ∈ Tb, p.1 = P1 → p.2 = lamName x) → ∀ (A : Around) (outer : List Env) (s : Shared) (H : Hp) (E : XK), Room k (A.deeper (envOfC x (defScope st) s.heap.objs.size f (.ref c))) →
      PSs (cxOf (L2N.CX P w) P w B.K mg base N x (defScope st) f (.ref c) A outer s H E) (defBody st) (tSt B (wishOf E) fn)) : FnGood B P w mg base (k + 1) x ps.length (mD (runD ps.length N.length fn)) := by
  obtain ⟨a, fd, c, P1, F, hb, hm, h1, h2, h3, h4⟩ := d.fun1
  refine ⟨a, fd, ps, ok_DC F S (fun cdv hc A outer s H E hr => ?_), hm, F.kp, hb, rfl⟩
  obtain ⟨oc, od, kV, dc, pm, an, ct, osl, e1, e2⟩ := hc
  rw [e1] at e2
  have e := h4 _ _ _ _ _ _ _ _ _ e2
  subst e
  exact hbody a c P1 h1 h2 h3 A outer s H E hr
theorem good_RL {x : Str} {st : Stmt} {N ps : List Str} {k : Nat} {fn : Rho → OS} (d : DefL B mg base Tb x st ps) (S : FnScope N ps (defScope st))
    (hbody : ∀ (f c P1 : Addr), TabB base mg c P1 → (P1, lamName x) ∈ Tb → (∀ p ∈ Tb, p.1 = P1 → p.2 = lamName x) → ∀ (A : Around) (outer : List Env) (s : Shared) (H : Hp) (E : XK), Room k (A.deeper (envOfC x (defScope st) s.heap.objs.size f (.ref c))) →
      PSs (cxOf (L2N.CX P w) P w B.K mg base N x (defScope st) f (.ref c) A outer s H E) (defBody st) (tSt B (wishOf E) fn)) : FnGood B P w mg base (k + 1) x ps.length (mR (runR ps.length N.length fn)) := by
  obtain ⟨a, fd, c, P1, F, hb, hm, h1, h2, h3, h4⟩ := d.fun1
  refine ⟨a, fd, ps, ok_RC F S (fun cdv hc A outer s H E hr => ?_), hm, F.kp, hb, rfl⟩
  obtain ⟨oc, od, kV, dc, pm, an, ct, osl, e1, e2⟩ := hc
  rw [e1] at e2
  have e := h4 _ _ _ _ _ _ _ _ _ e2
  subst e
  exact hbody a c P1 h1 h2 h3 A outer s H E hr
/-! ### the def that says the word -/
structure WordD (B : Bs) (P : Program) (w : World) (mg : Str → Option Value) (base : Heap) (cl : Str → Option Addr) (cm : Addr) (n : Nat) (fn : Addr → (Str → Bool) → Rho → OS) : Prop where
  ex : ∃ (g : Addr) (pg : Arguments) (bg : List Stmt) (sg : Scope) (dV kV doc pm cdv ct oc : Value) (an od : Option Addr) (osl : Array (Option Value)) (Ng : List Str), mg "_law_word" = some (.ref g) ∧ PySem.W.keepIn B.K (.ref g) = true ∧
    B.K.lookup g = some ⟨oc, od, .func (PySem.W.fnOf "_law_word" "_law_word" pg bg sg dV kV doc pm an cdv ct), osl⟩ ∧ PySem.W.codeIn B.K cdv "_law_word" = true ∧ L2.Binds B.K (PySem.W.fnOf "_law_word" "_law_word" pg bg sg dV kV doc pm an cdv ct) ["call"] [] ∧
    FnScope Ng ["call"] sg ∧ Ng[0]? = some ("call" : Str) ∧ Vis sg "call" ∧ ∀ X : Cx, X.K = B.K → X.mg = mg → X.prog = P → X.w = w → X.base = base → Room 3 X.A → LamN.GivesToN X Ng "_law_word" sg g cdv bg "call" (X.env.qual ++ "<lambda>") (TTw B cl cm n fn)
end
theorem g_word {B : Bs} {X : Cx} {Wx : WX} {Tb : List (Addr × Str)} {cl : Str → Option Addr} {cm : Addr} {n : Nat} {fn : Addr → (Str → Bool) → Rho → OS} {kw : Str → Option Str} {k : Nat} {c P1 : Addr} {params : Arguments} {body : Expr} {scope : Scope} {p lpos pos : Pos} {f : Rho → O D} {x : Str} (hB : B = Be B.K Tb cl cm) (hK : X.K = B.K) (W : WordD B X.prog X.w X.mg X.base cl cm n fn) (KW : KwOk cl n fn kw)
    (TB : TabB X.base X.mg c P1) (hcode : X.env.code = .ref c) (hq : X.env.qual ++ "<lambda>" = lamName x) (hmT : (P1, lamName x) ∈ Tb) (hu : ∀ p ∈ Tb, p.1 = P1 → p.2 = lamName x) (hr : Room (k + 3) X.A)
    (hbody : ∀ (A : Around) (outer : List Env) (s : Shared) (H : Hp) (E : XK) (f' c' : Addr), Room (k + 1) (A.deeper (lamEnv X scope s.heap.objs.size f' c')) → PE (LamN.lamCxN X A outer s H E scope f' c') body (tEv B (wishOf E) f))
    (L : lamSB X.env.scope scope = true := by kernel_rfl) (hdef : defaultsOf params X.env = ([], []) := by rfl)
    (hbind : ∀ (q : Str) (cl : List (Str × Addr)) (pm cv ctv : Value), bindArgs (PySem.W.kla_fn "<lambda>" q params body scope cl pm cv ctv) ⟨[], []⟩ = pure [] := by intros; rfl) (hg : Gl X "_law_word" := by rfl) :
    PE X (.Call (.Name "_law_word" p) [.Lambda params body scope lpos] [] pos) (tEv B Wx (sWord kw f)) := by
  obtain ⟨g, pg, bg, sg, dV, kV, doc, pm, cdv, ct, oc, an, od, osl, Ng, h1, h2, h3, h4, h5, h6, h7, h8, h9⟩ := W.ex
  have G := h9 X hK rfl rfl rfl rfl (hr.mono (by omega))
  rw [← hK] at h2 h3 h4 h5
  have q := LamN.pe_lamcallN (k := k + 1) (p := p) (lpos := lpos) (pos := pos) hg h1 h2 h3 h4 h5 h6 h7 h8 G TB hcode (by rw [hq]; exact hmT) (by rw [hq]; exact hu) hr (lamS_by L) hdef hbind (fun A outer s H E f' c' hr' => hbody A outer s H E f' c' hr')
  rw [hB]
  rw [hB] at q
  exact q.imp' fun σ H Q h => word_read KW h
end Rf

set_option maxRecDepth 100000
set_option maxHeartbeats 4000000
namespace Rf
open PySem PySem.Spec PyProof.Rows L2 HotY HotP L2H HotX LamX
/-! ### __init__ of the class with a limit -/
theorem int_len {i : Int} {k : Nat} (hk : 0 < k) (h : i.natAbs.log2 < k) : ((toString i : String) : Str).length ≤ k + 2 := by
  have e := int_text_length_le hk h
  have q := PySem.ofString_length (toString i)
  omega

abbrev limBody (p1 p2 p4 p5 p6 p7 p8 p9 p10 p11 p12 p13 p14 p15 : Pos) (j : Nat) : List Stmt :=
  [.Expr (.Call (.Attribute (.Name "SpreadError" p1) "__init__" p2) [.Name "self" p4, .BinOp (.Constant (.str "more than ") j p5) .Add (.Call (.Name "str" p6) [.Name "limit" p7] [] p8) p9] [] p10) p11, .Assign [.Attribute (.Name "self" p12) "limit" p13] (.Name "limit" p14) p15]
theorem lim_init {P : Program} {w : World} {K : PySem.W.Frag} {mg : Str → Option Value} {base : Heap} {Cs f : Addr} {mc : Value} {st : Stmt} {fd : FuncData} {p1 p2 p4 p5 p6 p7 p8 p9 p10 p11 p12 p13 p14 p15 : Pos} {j : Nat} (F : Fun K "__init__" "TooMany.__init__" st f fd) (S : FnScope ["self", "limit"] ["self", "limit"] (defScope st))
    (hst : defBody st = limBody p1 p2 p4 p5 p6 p7 p8 p9 p10 p11 p12 p13 p14 p15 j) (l1 : (defScope st).names.lookup ("self" : Str) = some .local) (l2 : (defScope st).names.lookup ("limit" : Str) = some .local) (g1 : (defScope st).names.lookup ("SpreadError" : Str) = some .globalImplicit) (g2 : (defScope st).names.lookup ("str" : Str) = some .globalImplicit)
    (hm : mg "SpreadError" = some (.ref Cs)) (rd : ClX.CRead K Cs mc) (vV : PySem.W.findCls K (.ref Cs) mc "__init__" = some (.val (.builtin "ValueError.__init__"))) (hstr : mg "str" = none) {pl : Env → Sem Bool}
    (hc : ∀ env : Env, eval (.Call (.Attribute (.Name "SpreadError" p1) "__init__" p2) [.Name "self" p4, .BinOp (.Constant (.str "more than ") j p5) .Add (.Call (.Name "str" p6) [.Name "limit" p7] [] p8) p9] [] p10) env = (do
      let ov ← eval (.Name "SpreadError" p1) env
      standAt p2.atName
      let (f, first) ← holding [ov] (getMethod ov "__init__" (pl env))
      callWith p10 f first (backTo p10 (starEach [.Name "self" p4, .BinOp (.Constant (.str "more than ") j p5) .Add (.Call (.Name "str" p6) [.Name "limit" p7] [] p8) p9] env)) (backToKw p10 (keywordEach [] env)))) : FnOk P w K mg base CX0 1 f fd ["self", "limit"] (ExN.spTM K) := by
  refine F.ok S (fun vs H Q E h => ?_) fun cdv A outer t H vs Q E hr h => ?_
  · obtain ⟨a, C, i, rfl, _⟩ := h; rfl
  · rw [hst]
    obtain ⟨a, C, i, rfl, h1, h2, h3, h4, h5⟩ := h
    refine ⟨_, pss_cons (ps_expr (ExN.pe_ownInit g1 hm (by decide) rd vV (pa_cons (pv 0 rfl (.inl l1)) (pa_cons (pe_op op_add_str pe_str (pe_callTy call_str_int g2 hstr (by decide +kernel) (pa_cons (pv 1 rfl (.inl l2)) pa_nil))) pa_nil)) (hc _))) (pss_one (ps_ost (pv 0 rfl (.inl l1)) (pv 1 rfl (.inl l2)))), ?_⟩
    have hlog : i.natAbs.log2 < 64 := by
      by_cases hz : i.natAbs = 0
      · rw [hz]; decide
      · exact (Nat.log2_lt hz).mpr h3
    refine ⟨.ref a, rfl, .int i, rfl, i, rfl, by omega, _, _, rfl, rfl, ?_, a, C, _, rfl, by simp, h1, h4, .int i, rfl, .ref a, rfl, a, C, rfl, h1, h2, .inl ⟨h4, fun dx n1 n2 => h5 dx n1 n2⟩⟩
    have hl := int_len (i := i) (k := 64) (by decide) hlog
    have e : ("more than " : Str).length = 10 := by decide +kernel
    rw [line_eq, e]
    omega
/-! ### the def that says the word -/
abbrev wordBody (p1 p2 p3 p4 p5 p6 p7 p8 p9 p10 p11 p12 p13 p14 p15 p16 p17 p18 p19 p20 p21 p22 p23 p24 p25 : Pos) (j1 j2 : Nat) : List Stmt :=
  [.Assign [.Name "found" p1] (.Constant (.str "") j1 p2) p3,
   .Try [.Expr (.Call (.Name "call" p4) [] [] p5) p6]
    [.ExceptHandler (some (.Name "TooMany" p7)) (some "e") [.Assign [.Name "found" p8] (.BinOp (.Constant (.str "full") j2 p9) .Add (.Call (.Name "str" p10) [.Attribute (.Name "e" p11) "limit" p12] [] p13) p14) p15] p16,
     .ExceptHandler (some (.Name "SpreadError" p17)) (some "e") [.Assign [.Name "found" p18] (.Call (.Name "_law_kind_of" p19) [.Name "e" p20] [] p21) p22] p23] [] [] p24,
   .Return (some (.Name "found" p25)) p25]
abbrev wordN : List Str := ["call", "found", "e"]
structure WordScope (sg : Scope) : Prop where
  c : sg.names.lookup ("call" : Str) = some .local
  f : sg.names.lookup ("found" : Str) = some .local
  e : sg.names.lookup ("e" : Str) = some .local
  g1 : sg.names.lookup ("TooMany" : Str) = some .globalImplicit
  g2 : sg.names.lookup ("SpreadError" : Str) = some .globalImplicit
  g3 : sg.names.lookup ("_law_kind_of" : Str) = some .globalImplicit
  g4 : sg.names.lookup ("str" : Str) = some .globalImplicit
theorem word_gives {B : Bs} {X : Cx} {L : List (Str × Addr)} {Cs cm fI fK g : Addr} {fdK : FuncData} {n : Nat} {fn : Addr → (Str → Bool) → Rho → OS} {sg : Scope} {cdg : Value} {q : Str} {p1 p2 p3 p4 p5 p6 p7 p8 p9 p10 p11 p12 p13 p14 p15 p16 p17 p18 p19 p20 p21 p22 p23 p24 p25 p26 : Pos} {j1 j2 : Nat} (hK : X.K = B.K) (F : Errs B.K X.mg L Cs cm) (M : Lims B.K X.mg cm fI) (hs : X.mg "SpreadError" = some (.ref Cs))
    (hstr : X.mg "str" = none) (FK : FnP X.prog X.w B.K X.mg X.base CX0 1 fK fdK ["e"] (spKind B (clOf L) n fn)) (hmk : X.mg "_law_kind_of" = some (.ref fK)) (kpk : PySem.W.keepIn B.K (.ref fK) = true) (bk : L2.Binds B.K fdK ["e"] []) (S : WordScope sg) (hr : Room 3 X.A) :
    LamN.GivesToN X wordN "_law_word" sg g cdg
      [.Assign [.Name "found" p1] (.Constant (.str "") j1 p2) p3,
       .Try [.Expr (.Call (.Name "call" p4) [] [] p5) p6]
        [.ExceptHandler (some (.Name "TooMany" p7)) (some "e") [.Assign [.Name "found" p8] (.BinOp (.Constant (.str "full") j2 p9) .Add (.Call (.Name "str" p10) [.Attribute (.Name "e" p11) "limit" p12] [] p13) p14) p15] p16,
         .ExceptHandler (some (.Name "SpreadError" p17)) (some "e") [.Assign [.Name "found" p18] (.Call (.Name "_law_kind_of" p19) [.Name "e" p20] [] p21) p22] p23] [] [] p24,
       .Return (some (.Name "found" p25)) p26] "call" q (TTw B (clOf L) cm n fn) := by
  intro f c' s H Q tl act hc h
  have hnd : wordN.Nodup := by decide +kernel
  obtain ⟨eM, hO, hno, _, _, hcm, hX⟩ := M.at
  have hX' : XfC X.K cm := by rw [hK]; exact hX
  have hno' : PySem.W.findIn X.K (.ref cm) "limit" = some none := by rw [hK]; exact hno
  -- the two suites
  let ts1 : Addr → Value → Option Addr → TS := fun a cls d => tAsg (tOp (fun x y H Q => ∃ i j, x = .str i ∧ y = .str j ∧ i.length + j.length ≤ sizeLine ∧ Q (.str (i ++ j)) H) (tC (.str "full")) (tCB (fun xs H Q => ∃ i, xs = [.int i] ∧ i.natAbs.log2 < 1920 ∧ Q (.str (toString i)) H) (tCons (tXf a cls d cm "limit" (tVar 2)) tNil))) (gName 1)
  let ts2 : Addr → Value → Option Addr → TS := fun a cls d D σ H => ∀ oe : Obj, L2N.Zn cls d oe → (∃ vs, oe.data = .fields vs) → tAsg (tCallS (spKind B (clOf L) n fn (a, oe)) (fun _ => E0) (tCons (tVar 2) tNil)) (gName 1) D σ H
  have hh : L2N.HdsAs (cxOf C8.CX0 X.prog X.w X.K X.mg X.base wordN "_law_word" sg g cdg X.A X.stack s H C8.E0).nox "e"
      [.ExceptHandler (some (.Name "TooMany" p7)) (some "e") [.Assign [.Name "found" p8] (.BinOp (.Constant (.str "full") j2 p9) .Add (.Call (.Name "str" p10) [.Attribute (.Name "e" p11) "limit" p12] [] p13) p14) p15] p16,
       .ExceptHandler (some (.Name "SpreadError" p17)) (some "e") [.Assign [.Name "found" p18] (.Call (.Name "_law_kind_of" p19) [.Name "e" p20] [] p21) p22] p23]
      [(.ref cm, ts1), (.ref Cs, ts2)] := by
    refine .cons ⟨S.g1, by decide, .inl M.mg⟩ (fun a oe cls d pn hz hf => ?_) (.cons ⟨S.g2, by decide, .inl hs⟩ (fun a oe cls d pn hz hf => ?_) .nil)
    · exact pss_one (ps_set (i := 1) hnd rfl (.inl S.f) (pe_op op_add_str pe_str (pe_callTy call_str_int S.g4 hstr (by decide +kernel) (pa_cons (pe_xf hX' hno' hz.zc hf (pv 2 rfl (.inl S.e))) pa_nil))))
    · have hot : Hot1 ((cxOf C8.CX0 X.prog X.w X.K X.mg X.base wordN "_law_word" sg g cdg X.A X.stack s H C8.E0).nox.suite a ((a, oe) :: pn)).A (a, oe) := by
        obtain ⟨vs, hv⟩ := hf
        exact ⟨rfl, vs, hv, hz.2.2 vs hv⟩
      have hrr : RoomH 1 ((cxOf C8.CX0 X.prog X.w X.K X.mg X.base wordN "_law_word" sg g cdg X.A X.stack s H C8.E0).nox.suite a ((a, oe) :: pn)).A := by
        have r := hr.deeper (envOfC "_law_word" sg s.heap.objs.size g cdg)
        exact ⟨by have := r.dp; show (X.A.deeper (envOfC "_law_word" sg s.heap.objs.size g cdg)).depth + _ < _; omega, by have := r.un; show (X.A.deeper (envOfC "_law_word" sg s.heap.objs.size g cdg)).units + _ < _; omega⟩
      rw [← hK] at FK kpk bk
      exact (pss_one (ps_set (i := 1) hnd rfl (.inl S.f) (pe_callP (X := (cxOf C8.CX0 X.prog X.w X.K X.mg X.base wordN "_law_word" sg g cdg X.A X.stack s H C8.E0).nox.suite a ((a, oe) :: pn)) (p := (a, oe)) (E := fun _ => E0) FK hrr hot List.mem_cons_self S.g3 hmk kpk bk (fun _ _ _ _ _ _ _ z => z.elim) (pa_cons (pv 2 rfl (.inl S.e)) pa_nil)))).imp' fun D σ H q => q oe hz hf
  refine ⟨_, pss_cons (ps_set (i := 1) hnd rfl (.inl S.f) pe_str) (pss_cons (L2N.ps_try_named (i := 2) (tb := fun W D σ H => ∃ Ech : XK, (∀ (cls : Value) (d : Option Addr) (σ' : St) (H' : Hp), σ'.length = 3 → Ech cls d H' → W cls d σ' H') ∧ σ[0]? = some (some (.ref f)) ∧ H c' = some (LamX.CodeO c' q) ∧ tl Ech H (fun _ H' => D.nx σ H')) rfl rfl hnd rfl S.e (fun W pn xe tk _ => ?_) hh) (pss_one (ps_ret (pv 1 rfl (.inl S.f))))), ?_⟩
  · refine ⟨fun pins s' σ H' D I h' => ?_⟩
    obtain ⟨Ech, hW, h1, h2, h3⟩ := h'
    have tk' : L2N.Takes ((cxOf C8.CX0 X.prog X.w X.K X.mg X.base wordN "_law_word" sg g cdg X.A X.stack s H C8.E0).tr pn xe) (fun cls d σ1 H1 => σ1.length = 3 → W cls d σ1 H1) := fun u s1 ⟨a, Bh, sI, pins1, σ1, H1, cls, d, e, I1, nb, up, sky, na, os, ag, w⟩ =>
      tk u s1 ⟨a, Bh, sI, pins1, σ1, H1, cls, d, e, I1, nb, up, sky, na, os, ag, w I1.len⟩
    exact (pss_one (ps_expr (pos := p6) (act _ pn xe Ech p4 p5 tk' (fun cls d σ1 H1 hE hl => hW cls d σ1 H1 hl hE)))).run pins s' σ H' D I ⟨h1, h2, h3⟩
  · refine ⟨Ew B (clOf L) cm n fn Q, fun cls d σ' H' hl hE => ?_, rfl, hc, h⟩
    have get2 : ∀ (v : V), (σ'.set 2 (some v))[2]? = some (some v) := fun v => List.getElem?_set_self (by omega)
    have get1 : ∀ (u v : V), (((σ'.set 2 (some u)).set 1 (some v)).set 2 none)[1]? = some (some v) := fun u v => by
      rw [List.getElem?_set_ne (by decide), List.getElem?_set_self (by rw [List.length_set]; omega)]
    rcases hE with ⟨i, dd, fs, h1, h2, h3, h4, h5, h6⟩ | ⟨nm, D, wd, S1, ρ1, σ1, G1, h1, h2, h3, h4, h5, h6⟩
    · refine ⟨true, (by rw [h1]; show PySem.W.exmOne X.K _ _ = _; rw [hK]; exact hcm), fun _ a ha => ?_, (fun z => nomatch z)⟩
      refine ⟨.ref a, get2 _, rfl, h1, dd, fs, .int i, h2, h3, h4, i, rfl, by omega, _, _, rfl, rfl, ?_, _, get1 _ _, h6⟩
      have hl := int_len (i := i) (k := 1000) (by decide) h5
      have e : ("full" : Str).length = 4 := by decide +kernel
      rw [line_eq, e]
      omega
    · obtain ⟨k0, k1, k2, k3, k4, k5⟩ := F.at h1
      refine ⟨false, (by rw [h2]; show PySem.W.exmOne X.K _ _ = _; rw [hK]; exact k2), (fun z => nomatch z), fun _ => ⟨true, (by rw [h2]; show PySem.W.exmOne X.K _ _ = _; rw [hK]; exact k3), fun _ a ha => ?_, (fun z => nomatch z)⟩⟩
      intro oe hz hf
      have hz := hz
      obtain ⟨ρ', hρ⟩ := h4 a
      refine ⟨.ref a, get2 _, nm, D, wd, ρ', S1, ρ1, σ1, G1, rfl, h1, ?_, hf, h5, hρ, fun H'' x => ⟨_, get1 _ _, h6 H'' x⟩⟩
      rw [← h2, ← h3]
      exact hz.zc
end Rf
namespace Rf
open PySem PySem.Spec PyProof.Rows L2 HotY HotP L2H HotX LamX
section
variable {X : Cx} {B : Bs} {Wx : WX}
theorem g_isk (i : Nat) {p : Addr × Obj} {D : Addr} {x c : Str} {b : Bool} {p1 p2 p3 pos : Pos} (hp : p ∈ X.pn) (C : ExcC X.K D) (hz : Zc (.ref D) none p.2) (hf : ∃ vs, p.2.data = .fields vs) (hm : X.mg "isinstance" = none) (h : ∃ C', X.mg c = some (.ref C') ∧ PySem.W.kitOne X.K (.ref D) (.ref C') = some b)
    (hN : X.N[i]? = some x := by rfl) (hv : Vis X.env.scope x := by first | exact .inl rfl | exact .inr (.inl rfl) | exact .inr (.inr rfl)) (hd : (x == ("__debug__" : Str)) = false := by decide) (hcd : (x == ("__classdict__" : Str)) = false := by decide) (hg : Gl X "isinstance" := by rfl) (hgc : Gl X c := by rfl) (hdc : (c == ("__debug__" : Str)) = false := by decide)
    (hs : starEach [.Name x p2, .Name c p3] X.env = (false, eval (.Name x p2) X.env) :: starEach [.Name c p3] X.env := by rfl) (hs2 : starEach [.Name c p3] X.env = (false, eval (.Name c p3) X.env) :: starEach [] X.env := by rfl) (hpl : (backTo pos (starEach [.Name c p3] X.env)).any (·.1) = false := by rfl) :
    PE X (.Call (.Name "isinstance" p1) [.Name x p2, .Name c p3] [] pos) (tEv B Wx (sIsx i p.1 b)) := by
  obtain ⟨C', h1, h2⟩ := h
  exact g_isx i hp C hz hf hm h1 h2 hN hv hd hcd hg hgc hdc hs hs2 hpl
end
theorem takesN0 {X : Cx} : L2N.Takes X wNo := fun _ _ ⟨_, _, _, _, _, _, _, _, _, _, _, _, _, _, _, _, z⟩ => z.elim
section
variable {X : Cx} {B : Bs} {Wx : WX}
theorem gq_lc2 (i : Nat) (own : List (Str × Nat)) (vs1 : List Nat) {y : Str} {py : Pos} {elt tg iter tg1 iter1 : Expr} {ifs ifs1 : List Expr} {scope : Scope} {pos spos : Pos} {t t1 : Tg} {fi fi1 : Rho → O (List Rf.D)} {fc fc1 fe : Rho → O Rf.D} (hc : X.calm = true) (hN : X.N.Nodup) (hi : PI X tg iter (tIt B Wx fi)) (hg : PBl X scope fun Y => PG Y tg (tTg B t)) (hf : PBl X scope fun Y => PTs Y ifs (tEt B wNo fc)) (hi1 : PBl X scope fun Y => PI Y tg1 iter1 (tIt B wNo fi1)) (hg1 : PBl X scope fun Y => PG Y tg1 (tTg B t1)) (hf1 : PBl X scope fun Y => PTs Y ifs1 (tEt B wNo fc1)) (he : PBl X scope fun Y => PE Y elt (tEv B wNo fe))
    (hy : X.N[i]? = some y := by rfl) (hyl : X.env.scope.names.lookup y = some .local := by rfl) (hsw : swapsWith (.ListComp elt [⟨tg, iter, ifs, 0⟩, ⟨tg1, iter1, ifs1, 0⟩] scope pos) (some (.Name y py)) spos.line X.env = pure true := by rfl)
    (ok : blkC X.N X.env.scope scope own = true := by kernel_rfl) (hv : ∀ i ∈ vs1, i ∈ own.map (·.2) := by decide) (ht : ∀ i ∈ t.slots, i ∈ own.map (·.2) := by decide) (ht1 : ∀ i ∈ t1.slots, i ∈ vs1 := by decide) (hs : ∀ x, foldedSetIterable iter X.env x = pure x := by intro _; rfl) (hs1 : ∀ env x, foldedSetIterable iter1 env x = pure x := by intro _ _; rfl) :
    PS X (.Assign [.Name y py] (.ListComp elt [⟨tg, iter, ifs, 0⟩, ⟨tg1, iter1, ifs1, 0⟩] scope pos) spos) (tSt B Wx (sAsg (.nm i) (sFrz (sLc2 t (own.map (·.2)) fi fc fi1 t1 vs1 fc1 fe)))) := q_lc2 hc hN hy hyl hsw hi (blkOk_by ok) hv ht ht1 hg hf hi1 hg1 hf1 he hs hs1
end
def sItemsL (fa : Rho → O D) : Rho → O (List D) := fun ρ => (fa ρ).bind fun x ρ1 => match x with | .list xs => .ok xs ρ1 | _ => .no
theorem gi_itemsS {X : Cx} {B : Bs} {Wx : WX} {tg e : Expr} {fa : Rho → O D} (hK : X.K = B.K) (he : PE X e (tEv B Wx fa)) : PIS X tg e (tIt B Wx (sItemsL fa)) := ri_itemsS hK he
abbrev errNames : List Str := ["InvalidWeb", "InvalidLot", "InvalidPlace", "InvalidKind", "InvalidBound", "InvalidNumber", "InvalidTies", "InvalidSteps", "InvalidFacts", "InvalidSwitch", "InvalidText", "Unlike", "NothingToUndo"]
def kwL : List (Str × Str) := [("InvalidWeb", "web"), ("InvalidLot", "lot"), ("InvalidPlace", "place"), ("InvalidKind", "kind"), ("InvalidBound", "bound"), ("InvalidNumber", "number"), ("InvalidTies", "ties"), ("InvalidSteps", "steps"), ("InvalidFacts", "facts"), ("InvalidSwitch", "switch"), ("InvalidText", "text"), ("Unlike", "unlike"), ("NothingToUndo", "undo")]
def kwd (nm : Str) : Option Str := kwL.lookup nm
theorem kwd_mem {nm z : Str} (h : kwd nm = some z) : (nm, z) ∈ kwL := by
  unfold kwd at h
  generalize kwL = l at h
  induction l with
  | nil => cases h
  | cons e l ih =>
    obtain ⟨m, y⟩ := e
    rw [List.lookup_cons] at h
    split at h
    · rename_i q
      rw [beq_iff_eq] at q
      cases h; rw [q]; exact List.mem_cons_self
    · exact List.mem_cons_of_mem _ (ih h)
theorem isx_at (i : Nat) (a : Addr) (b : Bool) (ρ : Rho) (h : ρ[i]? = some (some (.raw (.ref a)))) : sIsx i a b ρ = .ok (.bool b) ρ := by
  unfold sIsx; rw [h]; dsimp only; rw [if_pos rfl]
def kwPairs (b : Str → Bool) : List D := kwL.map fun e => PyData.tuple [.str e.2, .bool (b e.1)]
def kwEnd : Rho → OS := (sSeq (sRet (sM1 dJoin (sCon (.str " ")) (sFrz (sLc (.tp [2, 3]) [2, 3] (sItemsL (sVar 1)) (sVar 3) (sVar 2))))) sSkip)
def retIs (o : OS) (z : Str) : Bool := match o with
  | .ret (.str y) _ => y == z
  | _ => false
theorem retIs_of {o : OS} {z : Str} (h : retIs o z = true) : ∃ ρ', o = .ret (.str z) ρ' := by
  unfold retIs at h
  split at h
  · rename_i y ρ'
    rw [beq_iff_eq] at h
    exact ⟨ρ', by rw [h]⟩
  · cases h
theorem kwok_of {cl : Str → Option Addr} {fn : Addr → (Str → Bool) → Rho → OS} (h0 : ∀ a b, fn a b (start0 4 [.raw (.ref a)]) = kwEnd [some (.raw (.ref a)), some (.dat (.list (kwPairs b))), none, none]) : KwOk cl 4 fn kwd := ⟨fun nm z h a => by
  have h := kwd_mem h
  rw [h0]
  simp only [kwL, List.mem_cons, Prod.mk.injEq, List.not_mem_nil, or_false] at h
  rcases h with ⟨rfl, rfl⟩ | ⟨rfl, rfl⟩ | ⟨rfl, rfl⟩ | ⟨rfl, rfl⟩ | ⟨rfl, rfl⟩ | ⟨rfl, rfl⟩ | ⟨rfl, rfl⟩ | ⟨rfl, rfl⟩ | ⟨rfl, rfl⟩ | ⟨rfl, rfl⟩ | ⟨rfl, rfl⟩ | ⟨rfl, rfl⟩ | ⟨rfl, rfl⟩
  all_goals exact retIs_of (by kernel_rfl)⟩
end Rf

set_option maxRecDepth 100000
set_option maxHeartbeats 4000000
namespace Rf
open PySem PySem.Spec PyProof.Rows L2 LamX
/-! ### a law's entry, with tables -/
/-- what the top says of the code objects of its defs -/
def TopTabs (q : Program) (mg : Str → Option Value) (K : PySem.W.Frag) (h : Heap) : Prop := ∀ x : Str, ((recsOf q).any fun e => e.name == x) = true → ∀ (f c P : Addr) (o oc : Obj) (fd : FuncData) (vs : Array Value), mg x = some (.ref f) → K.lookup f = some o → o.data = .func fd → fd.code = .ref c → K.lookup c = some oc → oc.data = .fields vs → vs[11]? = some (.ref P) →
  PySem.W.CodeHd h c P ∧ h.get? P = some { cls := .none, data := .fields #[] }
theorem walk_ofTop {l : PySem.W.OpenLaw} {n k : Nat} {q : Program} {loose : List Str} {XP : (Str → Option Value) → Heap → Prop} {YP : World → Heap → Prop} {d : DefRec} {K : Params → PySem.W.Frag} {CX : World → CXT} {x : Str}
    (hn : l.most = some n) (hn2 : n ≤ sizeLine) (hdf : d.params.defaults = []) (hr : Room k callerA) (hY : ∀ (w : World) (h : Heap), YP w h → (K w.params).In h)
    (F : ∀ (w : World) (mg : Str → Option Value) (fa : Addr) (h : Heap), YP w h → (K w.params).In h → h.Ns mainGlobals mg → mg d.name = some (.ref fa) → TopTabs q mg (K w.params) h → LawAtS l w (K w.params) (CX w) k n x mg fa h)
    (hCX : ∀ (w : World) (H : Hp) (s : Shared) (e : Value) (s' : Shared), CX w [] H s (fun _ _ _ => False) e s' → False) :
    PySem.W.WalkO q loose XP YP l.row.toRowW d [] (fun f vs => PySem.call f vs) := by
  refine Att.attach_callB hn hdf fun w s₀ s₁ mg mb fa o pm cd doc a vs ns G Y ho hd hcd hmg hobj hints hlen hbits hg => ?_
  have KX := hY w _ Y
  have tt : TopTabs q mg (K w.params) s₁.heap := fun y hrec f c P o1 oc fd1 vs1 k1 k2 k3 k4 k5 k6 k7 => by
    obtain ⟨dL, hm, hn1⟩ := List.any_eq_true.mp hrec
    have hn2 : dL.name = y := beq_iff_eq.mp hn1
    obtain ⟨a', o', fd', c', P', h1, h2, h3, h4, h5, h6⟩ := G.T.tab dL hm
    rw [hn2, k1] at h1
    cases h1
    have g1 := KX _ _ k2
    rw [g1] at h2
    cases h2
    rw [k3] at h3
    cases h3
    rw [k4] at h4
    cases h4
    have hh := PySem.W.CodeHd.of h5 h6
    obtain ⟨⟨oc', vc, e1, _, e3, e4⟩, hP⟩ := h6
    have g2 := KX _ _ k5
    rw [g2] at e1
    cases e1
    rw [k6] at e3
    cases e3
    rw [k7] at e4
    cases e4
    exact ⟨hh, hP⟩
  obtain ⟨fd, cs, sp, hT, nT, C, hb, hsp, hF⟩ := F w mg fa _ Y KX G.T.g hmg tt
  exact law_callTs KX G.T.g G.T.b G.T.builtins G.T.nolimit hg hT nT C G.T.bmain hobj hints (Nat.le_trans hlen hn2) hr hF hb (fun H hH hS => hsp H a ns hlen hbits hH hS) fun H e s' => hCX w H s₁ e s'
/-- the law's promise, asked at its entry -/
theorem spOf_lawT {K : PySem.W.Frag} {Tb : List (Addr × Str)} {cl : Str → Option Addr} {cm : Addr} {m : List D → FD} {H : Hp} {a : Addr} {ns : List Int} (hT : ∀ p ∈ Tb, H p.1 = some (.tbl #[])) (hS : SqL K H a (ns.map V.int)) (hl : ns.length ≤ 63) (h : m [.list (ns.map .int)] = .ret (.bool true)) :
    spOf (Be K Tb cl cm) (mD m) [.ref a] H (fun v _ => v = .bl true) fun _ _ _ => False := by
  obtain ⟨G0, hG, hS'⟩ : ∃ G0 : Hp, (∀ b o, G0 b = some o → b = a ∧ H a = some o ∧ (o = .lst (ns.map V.int) ∨ ∃ u, o = .frz u (.lst (ns.map V.int)))) ∧ SqL K G0 a (ns.map V.int) := by
    rcases hS with (r | ⟨o, r⟩) | r
    · refine ⟨fun b => if b = a then H a else none, fun b o' e => ?_, .inl (.inl ?_)⟩
      · dsimp only at e
        split at e
        · refine ⟨by assumption, e, .inl ?_⟩
          rw [r] at e; cases e; rfl
        · cases e
      · show (if a = a then H a else none) = _
        rw [if_pos rfl]; exact r
    · refine ⟨fun b => if b = a then H a else none, fun b o' e => ?_, .inl (.inr ⟨o, ?_⟩)⟩
      · dsimp only at e
        split at e
        · refine ⟨by assumption, e, .inr ⟨o, ?_⟩⟩
          rw [r] at e; cases e; rfl
        · cases e
      · show (if a = a then H a else none) = _
        rw [if_pos rfl]; exact r
    · exact ⟨fun _ => none, fun b o e => (nomatch e), .inr r⟩
  have hlen : (ns.map V.int).length ≤ sizeLine := by rw [List.length_map, line_eq]; omega
  refine ⟨G0, [.dat (.list (ns.map .int))], fun i l e => ?_, fun i l e => ?_, ?_, ?_⟩
  · match i, e with
    | 0, e => cases e
    | i + 1, e => simp at e
  · match i, e with
    | 0, e => cases e
    | i + 1, e => simp at e
  · have hc : ∀ (i : Nat) c, (argsR [C.dat (.list (ns.map .int))])[i]? = some (some c) → i = 0 ∧ c = .dat (.list (ns.map .int)) := fun i c e => by
      match i, e with
      | 0, e => cases e; exact ⟨rfl, rfl⟩
      | i + 1, e => simp [argsR] at e
    exact {
      sub := fun b o e => by obtain ⟨rfl, e, _⟩ := hG b o e; exact e
      nt := fun b ps e => by
        obtain ⟨rfl, e, z⟩ := hG b _ e
        rcases z with z | ⟨u, z⟩ <;> cases z
      sz := fun b o e => by
        obtain ⟨rfl, e, z⟩ := hG b o e
        rcases z with rfl | ⟨u, rfl⟩
        · exact hlen
        · exact hlen
      j := fun p hp => TabS.nil (hT p hp)
      keep := fun b o e _ _ => e
      there := fun b e => e
      gsub := fun b o e => e
      gnew := fun b o e => .inl e
      len := rfl
      dat := fun i d e => by
        obtain ⟨rfl, e⟩ := hc i _ e
        cases e
        exact ⟨.ref a, rfl, .lst hS' (DpAll.of_ints ns)⟩
      dct := fun i ks e => by obtain ⟨_, e⟩ := hc i _ e; cases e
      raw := fun i v e => by obtain ⟨_, e⟩ := hc i _ e; cases e
      rel := fun i k d e => by obtain ⟨_, e⟩ := hc i _ e; cases e
      dnq := fun i j ks ks' e _ => by obtain ⟨_, e⟩ := hc i _ e; cases e
      held := fun i l e => by
        rcases e with e | e
        · obtain ⟨_, e⟩ := hc i _ e; cases e
        · obtain ⟨_, e⟩ := hc i _ e; cases e
      ref := fun i l e => by obtain ⟨_, e⟩ := hc i _ e; cases e
      sep := fun i j l m _ e _ => by
        rcases e with e | e
        · obtain ⟨_, e⟩ := hc i _ e; cases e
        · obtain ⟨_, e⟩ := hc i _ e; cases e
      isref := fun i l e => by obtain ⟨_, e⟩ := hc i _ e; cases e }
  · have e : mD m [.dat (.list (ns.map .int))] = .ret (.bool true) [.dat (.list (ns.map .int))] := by
      unfold mD
      rw [show datsOf [C.dat (.list (ns.map .int))] = some [.list (ns.map .int)] from rfl]
      dsimp only
      rw [h]
    rw [e]
    intro v H' G' _ hv
    cases hv
    rfl
theorem cxN_none {P : Program} {w : World} {H : Hp} {s : Shared} {e : Value} {s' : Shared} (z : L2N.CX P w [] H s (fun _ _ _ => False) e s') : False := by
  obtain ⟨a, B, H', cls, d, h1, h2, h3, h4, h5, h6, h7, h8⟩ := z
  exact h8
end Rf
namespace Rf
open PySem PySem.Spec PyProof.Rows L2 LamX
theorem uniq_of {l : List (Addr × Str)} (h : (l.map (·.1)).Nodup) : ∀ p ∈ l, ∀ q ∈ l, p.1 = q.1 → p.2 = q.2 := by
  induction l with
  | nil => intro p hp; cases hp
  | cons a l ih =>
    rw [List.map_cons, List.nodup_cons] at h
    intro p hp q hq e
    rcases List.mem_cons.mp hp with h1 | h1
    · rcases List.mem_cons.mp hq with h2 | h2
      · rw [h1, h2]
      · exact absurd (List.mem_map.mpr ⟨q, h2, by rw [← e, h1]⟩) h.1
    · rcases List.mem_cons.mp hq with h2 | h2
      · exact absurd (List.mem_map.mpr ⟨p, h1, by rw [e, h2]⟩) h.1
      · exact ih h.2 p h1 q h2 e
theorem code_at {K : PySem.W.Frag} {x qual : Str} {st : Stmt} {f c : Addr} {oc kV dc pm ct : Value} {od an : Option Addr} {osl : Array (Option Value)} {fd : FuncData} (h : K.lookup f = some ⟨oc, od, .func (PySem.W.fnOf x qual (defArgs st) (defBody st) (defScope st) .none kV dc pm an (.ref c) ct), osl⟩) :
    ∀ cdv, CodeAt K x qual st f fd cdv → cdv = .ref c := fun cdv ⟨oc', od', kV', dc', pm', an', ct', osl', h1, h2⟩ => by
  subst h1
  rw [h] at h2
  have h2 := Option.some.inj h2
  have h2 := congrArg (fun o : Obj => match o.data with | .func fd => fd.code | _ => .none) h2
  exact h2.symm
end Rf

set_option maxRecDepth 100000
set_option maxHeartbeats 4000000
/-! # errors held as values: made, put into lists, asked for their class, their text, their limit -/
namespace Rf
open PySem PySem.Spec PyProof.Rows L2
/-- what the written part says of a class whose errors are values -/
structure ErV (K : PySem.W.Frag) (C : Addr) : Prop where
  is : IsErr K C
  gs : PySem.W.specialIn K (.builtin "object.__class__") "__get__" = some (some (.builtin "getset_descriptor.__get__"))
  tk : PySem.W.takesIn K (.builtin "object.__class__") = some true
  st : PySem.W.findIn K (.ref C) "__str__" = some (some (.builtin "BaseException.__str__"))
def erVB (K : PySem.W.Frag) (C : Addr) : Bool := isErrB K C && (PySem.W.specialIn K (.builtin "object.__class__") "__get__" == some (some (.builtin "getset_descriptor.__get__")) && (PySem.W.takesIn K (.builtin "object.__class__") == some true && PySem.W.findIn K (.ref C) "__str__" == some (some (.builtin "BaseException.__str__"))))
theorem erV_of {K : PySem.W.Frag} {C : Addr} (h : erVB K C = true) : ErV K C := by
  simp only [erVB, Bool.and_eq_true, beq_iff_eq] at h
  obtain ⟨h1, h2, h3, h4⟩ := h
  exact ⟨isErr_of h1, h2, h3, h4⟩
theorem ErV.isC {K : PySem.W.Frag} {C : Addr} (h : ErV K C) : (PySem.W.clsIn K C).isSome = true := by
  obtain ⟨cd, hc, _⟩ := PySem.W.any_some h.is.hd
  rw [hc]; rfl
theorem exS_own {e C t x : Addr} : ExS C e t ≠ .own x := fun z => by
  have z' : HO.ext _ = HO.own x := z
  cases z'
theorem exS_tbl {e C t : Addr} {ps : Array Value} : ExS C e t ≠ .tbl ps := fun z => by
  have z' : HO.ext _ = HO.tbl ps := z
  cases z'
theorem exS_ok {P : Program} {w : World} {H : Hp} {h : Heap} {C a t0 : Addr} (he : h.get? a = some ({ cls := .ref C, dict := none, data := .fields #[.ref t0, .none, .none, .none, .bool false, .none] } : Obj)) : ObjOk P w H h a (ExS C a t0) :=
  ⟨he, ⟨_, he⟩, fun _ _ z k => k _ z⟩
theorem exS_at {P : Program} {w : World} {H : Hp} {h : Heap} {C a t0 : Addr} (hok : HOk P w H h) (he : H a = some (ExS C a t0)) : h.get? a = some ({ cls := .ref C, dict := none, data := .fields #[.ref t0, .none, .none, .none, .bool false, .none] } : Obj) := by
  have x : ObjOk P w H h a (.ext fun h => h.get? a = some ({ cls := .ref C, dict := none, data := .fields #[.ref t0, .none, .none, .none, .bool false, .none] } : Obj)) := hok a _ he
  exact x.1
section
variable {X : Cx}
/-- X(e), e a text: a new error, a value -/
theorem pe_exS {C : Addr} {bmB : List Value} {b0 newId initId : String} {x : Str} {e : Expr} {ta : TE} {p pos : Pos} (F : ExcBaseFacts b0 newId initId bmB) (q : PySem.W.excIn X.K C bmB newId = true) (gC : X.mg x = some (.ref C)) (kC : PySem.W.keepIn X.K (.ref C) = true) (hg : Gl X x)
    (he : PE X e ta) (hs : starEach [e] X.env = (false, eval e X.env) :: starEach [] X.env := by rfl) (hdb : (x == ("__debug__" : Str)) = false := by decide) :
    PE X (.Call (.Name x p) [e] [] pos) (fun σ H Q => ta σ H fun v H1 => ∀ a t0, H1 a = none → H1 t0 = none → a ≠ t0 → Q (.ref a) (upd (upd H1 t0 (.tup [v])) a (ExS C a t0))) := by
  refine ⟨fun pins s σ H Q I h => ?_⟩
  refine wpAny_Call_Name_kw (ld_glob I hg gC ?_ hdb)
  refine PySem.W.callWith_K (h₀ := X.base) I.ok.mod.kin kC ?_ hs (by rfl)
  rw [hs]
  show wpAny _ _ (spliced ((false, eval e X.env) :: backTo pos (starEach [] X.env))) _ _ s
  refine Calls.spliced_cons (thn (he.run pins s σ H _ I h) fun u s1 ⟨v, H1, I1, r1, q1⟩ => ?_)
  refine Calls.spliced_nil ⟨I1.kIn, ?_⟩
  show wpAny _ _ (call (.ref C) [u]) _ _ _
  obtain ⟨bm, N, nm, qn, bs, hdct, sn, sub, ab, col, dd, k0, k1, k2, k3, k5, mN, hC, hN, hni, T⟩ := exc_obj I1.kIn q
  refine wpAny_call_exc_subT F T hC hN hni (fun h' a hm => ?_) (by show 1 ≤ sizeLine; rw [sizeLine_eq]; omega)
  have hn : H1 a = none := I1.hok.gone hm.new
  obtain ⟨t0, ht, htn, htt⟩ := hm.there
  have hnt : H1 t0 = none := I1.hok.gone htn
  have hat : a ≠ t0 := fun z => by
    rw [z] at ht
    rw [htt] at ht
    cases ht
  obtain ⟨G, g1, g2⟩ := restrict h' fun b => decide (b ≠ a)
  have gk : ∀ b, b ≠ a → G.get? b = h'.get? b := fun b hb => g1 b (decide_eq_true hb)
  have ga : G.get? a = none := g2 a (by simp)
  obtain ⟨hp, g, d, tt, os⟩ := s1
  have I2 := I1.laidN (h' := G) (a := t0) (o := .tup [v]) (t' := tt) (fun b o e => by
    rw [gk b (fun z => by rw [z] at e; rw [hm.new] at e; cases e)]
    exact hm.keeps b o e) htn hnt ⟨by show 1 ≤ sizeLine; rw [sizeLine_eq]; omega, [u], .cons r1 .nil, ⟨_, (gk t0 (Ne.symm hat)).trans htt, rfl, 0, rfl⟩⟩
  have I3 := I2.laidN (h' := h') (a := a) (o := ExS C a t0) (t' := tt) (fun b o e => by
    have e' : G.get? b = some o := e
    rw [gk b (fun z => by rw [z, ga] at e'; cases e')] at e'
    exact e') ga (by rw [upd_ne hat]; exact hn) (exS_ok ht)
  exact ⟨.ref a, _, I3, rfl, q1 a t0 hn hnt hat⟩
/-- C(e), C's own __init__ keeping sp: a new error, a value -/
theorem pe_exM {CX : CXT} {x : Str} {C fI : Addr} {k : Nat} {fd : FuncData} {ps : List Str} {sp : Sp} {e : Expr} {es : List Expr} {ta : TA} {p pos : Pos} (T : OexC X.K C) (iC : PySem.W.findIn X.K (.ref C) "__init__" = some (some (.ref fI))) (tI : PySem.W.typeIn X.K (.ref fI) = some (.type "function"))
    (F1 : FnOk X.prog X.w X.K X.mg X.base CX k fI fd ps sp) (hr : Room (k + 1) X.A) (hb : Binds X.K fd ps []) (hxz : Passes CX X (fun _ _ _ => False)) (hg : Gl X x) (hmz : X.mg x = some (.ref C)) (ha : PA X (e :: es) ta)
    (hdb : (x == ("__debug__" : Str)) = false := by decide) (he : starEach (e :: es) X.env = (false, eval e X.env) :: starEach es X.env := by rfl) (hpl : (backTo pos (starEach es X.env)).any (·.1) = false := by rfl) :
    PE X (.Call (.Name x p) (e :: es) [] pos) (fun σ H Q => ta σ H fun vs H1 => vs.length ≤ 1000 ∧ ∀ a, H1 a = none → sp (.ref a :: vs) (upd H1 a (exo a C none)) (fun v H2 => v = .non ∧ Q (.ref a) H2) (fun _ _ _ => False)) := by
  refine ⟨fun pins s σ H Q I h => ?_⟩
  obtain ⟨nm, q, N, bs, bm, sn, sub, ab, col, dd, k0, k1z, k2z, k3, k5, hC, hbm⟩ := T.cls
  refine wpAny_Call_Name_kw (ld_glob I hg hmz ?_ hdb)
  refine PySem.W.callWith_K (h₀ := X.base) I.ok.mod.kin T.kC (thn (ha.run pos pins s σ H _ I h) fun us s1z ⟨vs, H1z, I1z, r1z, hzz, q1z⟩ => ⟨I1z.kIn, ?_⟩) he hpl
  show wpAny _ _ (call (.ref C) us) _ _ _
  obtain ⟨hp, g, dr, tk, osz⟩ := s1z
  have hsz : hp.objs.size ≤ hp.objs.size + 1 := Nat.le_succ _
  have hnz : H1z (hp.objs.size + 1) = none := I1z.hok.fresh hsz
  have hqz := q1z (hp.objs.size + 1) hnz
  have kk : ∀ b o, hp.get? b = some o → ((hp.push (PySem.W.kdv_tup us)).push (PySem.HandSPX.excO C hp.objs.size)).get? b = some o := fun b o e => Heap.get?_push_of_some _ (Heap.get?_push_of_some _ e)
  have hget : ((hp.push (PySem.W.kdv_tup us)).push (PySem.HandSPX.excO C hp.objs.size)).get? (hp.objs.size + 1) = some (PySem.HandSPX.excO C hp.objs.size) := by heap_get
  have I2z : Inv X pins σ (upd H1z (hp.objs.size + 1) (exo (hp.objs.size + 1) C none)) ⟨(hp.push (PySem.W.kdv_tup us)).push (PySem.HandSPX.excO C hp.objs.size), g, dr, tk, osz⟩ :=
    I1z.laid (t' := tk) (a := hp.objs.size + 1) (o := exo (hp.objs.size + 1) C none) (h' := (hp.push (PySem.W.kdv_tup us)).push (PySem.HandSPX.excO C hp.objs.size)) kk hsz (exo_ok hget)
  have r2 : Vals (V.ref (hp.objs.size + 1) :: vs) (Value.ref (hp.objs.size + 1) :: us) := .cons rfl r1z
  have hlz : (Value.ref (hp.objs.size + 1) :: us ++ []).length = ps.length := by
    have e := r2.length
    rw [F1.len _ _ _ _ hqz] at e
    rw [List.append_nil]
    exact e.symm
  have hus : us.length ≤ sizeLine := by
    rw [← Paired.length r1z, sizeLine_eq]
    omega
  refine wpAny_call (PySem.HandSPX.call_own F.excBase_ValueError (fun Y => PySem.HandSPX.refsVE_contains Y bm hbm) (I1z.kIn _ _ hC) (PySem.W.looks_findIn I1z.kIn iC) (fun self => PySem.W.bind_fn I1z.kIn self tI) hus
    (codeAny_mono (F1.run _ X.stack _ _ ⟨Value.ref (hp.objs.size + 1) :: us, []⟩ (Value.ref (hp.objs.size + 1) :: us) _ _ (fun _ _ _ => False) (hr.make C us []) (I2z.env0.make C us []) (by have z := hb _ (Value.ref (hp.objs.size + 1) :: us) I2z.kIn hlz; rw [List.append_nil] at z; exact z) r2 hqz) fun r s' hq' => ?_))
  cases r with
  | error er => exact hxz pins σ _ _ er s' I2z hq'
  | ok fl =>
    cases fl with
    | ret u =>
      obtain ⟨v, H2z, os2, bare2, un2, hok2, rvz, ev, q2⟩ := hq'
      subst ev
      exact ⟨rvz, .ref (hp.objs.size + 1), H2z, I2z.call' os2 un2 hok2 bare2 (fun b z => absurd z (by simp)), rfl, q2⟩
    | next => exact False.elim hq'
    | brk => exact False.elim hq'
    | cont => exact False.elim hq'
/-- an error that is tracked, of the class D -/
def TrE (H : Hp) (a D : Addr) : Prop := (∃ t0, H a = some (ExS D a t0)) ∨ ∃ dx fs, H a = some (exo a D (some dx)) ∧ H dx = some (exd dx fs)
theorem trE_inst {pins : List (Addr × Obj)} {σ : St} {H : Hp} {s : Shared} {a D : Addr} (I : Inv X pins σ H s) (h : TrE H a D) : ∃ ox od, PySem.W.InstAt s.heap a ox D od := by
  rcases h with ⟨t0, h⟩ | ⟨dx, fs, h1, h2⟩
  · exact ⟨_, none, exS_at I.hok h, rfl, rfl, trivial⟩
  · obtain ⟨t1, he⟩ := exo_at I.hok h1
    obtain ⟨mA, ⟨od, es, ep, ho, hr⟩, _⟩ := exd_at I.hok h2
    exact ⟨_, some od, he, rfl, rfl, ho⟩
theorem call_isV : CallR X (.builtin "isinstance") (fun xs H Q => ∃ (a D : Addr) (c : V) (cv : Value) (b : Bool), xs = [.ref a, c] ∧ ErV X.K D ∧ TrE H a D ∧ (∀ u, RelV c u → u = cv) ∧ PySem.W.kitOne X.K (.ref D) cv = some b ∧ Q (.bl b) H) := by
  intro pins s σ H xs us Q I r h
  obtain ⟨a, D, c, cv, b, rfl, C, tr, hcv, e, q⟩ := h
  cases r with
  | cons rx rr =>
    cases rr with
    | cons rt rr =>
      cases rr
      cases rx
      have ec := hcv _ rt
      subst ec
      obtain ⟨ox, od, J⟩ := trE_inst I tr
      exact PySem.W.kia_one (PySem.W.kitx_exc C.isC C.is.ga C.is.gg C.is.sb C.is.cl C.gs C.tk C.is.mo) I.kIn J e (fun z => nomatch z) fun tk => ⟨.bl b, H, I.kept (t' := tk) fun _ _ z => z, rfl, q⟩
theorem call_strV (hu : X.A.units + 2 < cLine) : CallR X (.type "str") (fun xs H Q => ∃ (a D t0 : Addr) (m : Str), xs = [.ref a] ∧ ErV X.K D ∧ H a = some (ExS D a t0) ∧ H t0 = some (.tup [.str m]) ∧ Q (.str m) H) := by
  intro pins s σ H xs us Q I r h
  obtain ⟨a, D, t0, m, rfl, C, h1, h2, q⟩ := h
  obtain ⟨u, rfl, rx⟩ := vals1 r
  obtain rfl : u = Value.ref a := rx
  have he := exS_at I.hok h1
  obtain ⟨_, its, rv, o, ho, hc, n, hd⟩ := (show ObjOk X.prog X.w H s.heap t0 (.tup [.str m]) from I.hok t0 _ h2)
  obtain ⟨w, rfl, tk, rfl⟩ := vals1 rv
  exact PySem.P.str_of_C_one hu ⟨I.kIn, _, _, he, rfl, rfl, rfl⟩ ⟨o, n, ho, hc, hd⟩ C.st C.is.sb ⟨.str m, H, I, ⟨tk, rfl⟩, q⟩
/-- e.n, e an error with a dict -/
theorem pe_xfV {e : Expr} {te : TE} {pos : Pos} {n : Str} (he : PE X e te) (hb : attributeBase e n X.env (eval e X.env) = eval e X.env := by rfl) :
    PE X (.Attribute e n pos) (fun σ H Q => te σ H fun x H1 => ∃ (a C dx : Addr) (fs : List (Str × V)) (v : V), x = .ref a ∧ XfC X.K C ∧ PySem.W.findIn X.K (.ref C) n = some none ∧ H1 a = some (exo a C (some dx)) ∧ H1 dx = some (exd dx fs) ∧ fs.lookup n = some v ∧ Q v H1) := by
  refine ⟨fun pins s σ H Q I h => ?_⟩
  refine attr_of hb (thn (he.run pins s σ H _ I h) fun u s1 hh => ?_)
  obtain ⟨x, H1, I1, rx, a, C, dx, fs, v, ex, T, hno, ea, ed, l, q⟩ := hh
  subst ex
  obtain rfl : u = Value.ref a := rx
  obtain ⟨t1, ho⟩ := exo_at I1.hok ea
  obtain ⟨mA, hns, hr⟩ := exd_at I1.hok ed
  obtain ⟨od, hod, hl⟩ := lookIn_ns hns
  obtain ⟨u, hu, ru⟩ := RelO.some_of (v := v) (o := mA n) (by rw [← l]; exact hr n)
  have J : PySem.W.InstAt s1.heap a _ C (some od) := ⟨ho, rfl, rfl, hod⟩
  exact HandSPX.exc_get I1.kIn J T.ga T.gg T.exC (PySem.W.findObj_own T.hdC hno rfl (by rw [hl, hu])) (handed_of ru) ⟨v, H1, I1.tok _, ru, q⟩
end
end Rf

set_option maxRecDepth 100000
set_option maxHeartbeats 4000000
/-! # errors held as values: the readings by data -/
namespace Rf
open PySem PySem.Spec PyProof.Rows L2
/-- an expression that gives a value of a kind -/
def tVv (B : Bs) (Wx : WX) (k : Nat) (f : Rho → O D) : TE := fun σ H Q => ∃ S ρ G, EnvOk B S ρ σ H G ∧ Post B S Wx σ G (f ρ) (fun d _ H' G' => ∀ v, B.RV k d G' v → Q v H')
/-- rows of such -/
def LsV (B : Bs) (k : Nat) (G : Hp) (ds : List D) (vs : List V) : Prop := vs.length = ds.length ∧ ∀ (i : Nat) d u, ds[i]? = some d → vs[i]? = some u → B.RV k d G u
def tVs (B : Bs) (Wx : WX) (k : Nat) (f : Rho → O (List D)) : TA := fun σ H Q => ∃ S ρ G, EnvOk B S ρ σ H G ∧ Post B S Wx σ G (f ρ) (fun ds _ H' G' => ∀ vs, LsV B k G' ds vs → Q vs H')
def clsD : D → Str
  | .tuple [.str nm, .str _] => nm
  | .int _ => "TooMany"
  | _ => ""
section
variable {X : Cx} {B : Bs} {Wx : WX} {k : Nat}
theorem LsV.cons {G G' : Hp} {d : D} {ds : List D} {v : V} {vs : List V} (le : Le G G') (h : B.RV k d G v) (r : LsV B k G' ds vs) : LsV B k G' (d :: ds) (v :: vs) := by
  refine ⟨by rw [List.length_cons, List.length_cons, r.1], fun i d' u h1 h2 => ?_⟩
  cases i with
  | zero => cases h1; cases h2; exact B.rs le h
  | succ i => exact r.2 i d' u (by simpa using h1) (by simpa using h2)
theorem gv_nil : PA X [] (tVs B Wx k sNil) := pa_nil.imp' fun σ H Q ⟨S, ρ, G, E, P⟩ => P H G E Le.refl _ ⟨rfl, fun i d u h => by simp at h⟩
theorem gv_cons {e : Expr} {es : List Expr} {f : Rho → O D} {g : Rho → O (List D)} (he : PE X e (tVv B Wx k f)) (hr : PA X es (tVs B Wx k g)) (hs : starEach (e :: es) X.env = (false, eval e X.env) :: starEach es X.env := by rfl) : PA X (e :: es) (tVs B Wx k (sCons f g)) :=
  (pa_cons he hr hs).imp' fun σ H Q ⟨S, ρ, G, E, P⟩ => by
    refine ⟨S, ρ, G, E, P.bind.imp fun d ρ1 H1 G1 E1 le1 q v hv => ?_⟩
    exact ⟨S, ρ1, G1, E1, q.bind.imp fun ds ρ2 H2 G2 E2 le2 q2 vs hvs => Post.at E2 q2 _ (hvs.cons le2 hv)⟩
/-- a slot's value -/
def sVvar (k i : Nat) : Rho → O D := fun ρ => match ρ[i]? with
  | some (some (.rel k' d)) => if k' = k then .ok d ρ else .no
  | _ => .no
theorem gv_var (i : Nat) {x : Str} {pos : Pos} (hN : X.N[i]? = some x := by rfl) (hv : Vis X.env.scope x := by first | exact .inl rfl | exact .inr (.inl rfl) | exact .inr (.inr rfl)) (hd : (x == ("__debug__" : Str)) = false := by decide) (hcd : (x == ("__classdict__" : Str)) = false := by decide) : PE X (.Name x pos) (tVv B Wx k (sVvar k i)) :=
  (pe_var hN hv hd hcd).imp' fun σ H Q ⟨S, ρ, G, E, P⟩ => by
    unfold sVvar at P
    split at P
    · rename_i k' d h
      split at P
      · rename_i hk
        subst hk
        obtain ⟨v, h1, h2⟩ := E.rel i _ d h
        exact ⟨v, h1, P H G E Le.refl v h2⟩
      · exact False.elim P
    · exact False.elim P
/-- x = such a value -/
def putV (i k : Nat) (d : D) (ρ : Rho) : Option Rho := match ρ[i]? with
  | none => none
  | some (some (.ref _)) => none
  | some _ => some (ρ.set i (some (.rel k d)))
def sAsgV (i k : Nat) (fa : Rho → O D) : Rho → OS := fun ρ => (fa ρ).run fun d ρ1 => match putV i k d ρ1 with
  | some ρ2 => .nx ρ2
  | none => .no
theorem q_asgV (i : Nat) {x : Str} {e : Expr} {px pos : Pos} {fa : Rho → O D} (hN : X.N.Nodup) (he : PE X e (tVv B Wx k fa)) (hi : X.N[i]? = some x := by rfl) (hx : Loc X.env.scope x := by first | exact .inl rfl | exact .inr rfl) (hf : X.fn x = true ∨ X.env.scope.names.lookup x = some .local := by first | exact .inl rfl | exact .inr rfl)
    (hs : swapsWith e (some (.Name x px)) pos.line X.env = pure false := by rfl) : PS X (.Assign [.Name x px] e pos) (tSt B Wx (sAsgV i k fa)) :=
  (ps_set hN hi hx he hs hf).imp' fun Dn σ H ⟨S, ρ, G, E, P⟩ => by
    refine ⟨S, ρ, G, E, P.run.imp fun l ρ1 H1 G1 E1 le1 q v hv => ?_⟩
    unfold putV at q
    split at q
    · rename_i ρ2 h2
      split at h2
      · cases h2
      · cases h2
      · rename_i c n h3
        cases h2
        exact q _ H1 G1 (E1.putRel hv fun l z => by rw [h3] at z; exact n l (Option.some.inj z)) Le.refl
    · exact False.elim q
def sRetV (k : Nat) (fa : Rho → O D) : Rho → OS := fun ρ => (fa ρ).run fun d ρ1 => .retV k d ρ1
theorem q_retV {e : Expr} {pos : Pos} {fa : Rho → O D} (he : PE X e (tVv B Wx k fa)) : PS X (.Return (some e) pos) (tSt B Wx (sRetV k fa)) :=
  (ps_ret he).imp' fun D σ H ⟨S, ρ, G, E, P⟩ => ⟨S, ρ, G, E, P.run.imp fun d ρ1 H1 G1 E1 le1 q v hv => q σ H1 G1 E1 Le.refl v hv⟩
/-! ### errors -/
variable {cl : Str → Option Addr} {cm : Addr}
theorem g_exS {x m : Str} {j : Nat} {p p2 pos : Pos} {C : Addr} (hK : X.K = B.K) (hV : B.RV = relE cl cm) (hcl : cl x = some C) (hm : X.mg x = some (.ref C)) (q : PySem.W.excIn B.K C veBases "ValueError.__new__" = true) (kC : PySem.W.keepIn B.K (.ref C) = true)
    (hg : Gl X x := by rfl) (hs : starEach [.Constant (.str m) j p2] X.env = (false, eval (.Constant (.str m) j p2) X.env) :: starEach [] X.env := by rfl) (hdb : (x == ("__debug__" : Str)) = false := by decide) :
    PE X (.Call (.Name x p) [.Constant (.str m) j p2] [] pos) (tVv B Wx 0 (sCon (.tuple [.str x, .str m]))) := by
  rw [← hK] at q kC
  refine (pe_exS PySem.F.excBase_ValueError q hm kC hg pe_str hs hdb).imp' fun σ H Q ⟨S, ρ, G, E, P⟩ => fun a t0 ha ht hat => ?_
  have E1 := E.new (p := t0) (o := .tup [.str m]) ht (fun _ => HO.noConfusion) (show 1 ≤ sizeLine by rw [line_eq]; omega)
  have E2 := E1.new (p := a) (o := ExS C a t0) (by rw [upd_ne hat]; exact ha) (fun _ => exS_tbl) trivial
  refine P _ _ E2 ((Le.upd (E.gnone ht)).trans (Le.upd (by rw [upd_ne hat]; exact E.gnone ha))) _ ?_
  rw [hV]
  refine ⟨a, C, t0, rfl, hcl, upd_same, ?_⟩
  rw [upd_ne (Ne.symm hat), upd_same]
def sLimV (fa : Rho → O D) : Rho → O D := fun ρ => (fa ρ).bind fun d ρ1 => match d with
  | .int i => if i.natAbs < 2 ^ 64 then .ok (.int i) ρ1 else .no
  | _ => .no
theorem g_exM {x : Str} {e : Expr} {p pos : Pos} {lv : Nat} {fa : Rho → O D} (hK : X.K = B.K) (hV : B.RV = relE cl cm) (F : LimE B X.prog X.w X.mg X.base x lv) (hm : X.mg x = some (.ref cm)) (hr : Room (lv + 1) X.A) (he : PE X e (tEv B Wx fa)) (hg : Gl X x := by rfl) (hdb : (x == ("__debug__" : Str)) = false := by decide)
    (hs : starEach [e] X.env = (false, eval e X.env) :: starEach [] X.env := by rfl) (hpl : (backTo pos (starEach [] X.env)).any (·.1) = false := by rfl) :
    PE X (.Call (.Name x p) [e] [] pos) (tVv B Wx 0 (sLimV fa)) := by
  obtain ⟨C, fI, fd, h1, h2, h3, h4, h5, h6, h7, h8⟩ := F.ex
  rw [hm] at h1
  cases h1
  have h2' := h2
  have h3' := h3
  rw [← hK] at h2 h4 h5 h6 h7
  refine (pe_exM h2 h4 h5 h6 hr h7 pass0 hg hm (pa_cons he pa_nil hs) hdb hs hpl).imp' fun σ H Q ⟨S, ρ, G, E, P⟩ => ?_
  refine ⟨S, ρ, G, E, P.bind.imp fun d ρ1 H1 G1 E1 le1 q v hv => ?_⟩
  split at q
  · rename_i i
    split at q
    · rename_i hi
      cases dint hv
      refine ⟨by simp, fun a ha => ⟨a, cm, i, rfl, h2, by rw [hK]; exact h3, hi, upd_same, fun dx hdx ndx => ?_⟩⟩
      refine ⟨rfl, ?_⟩
      have hdx1 : H1 dx = none := by rw [upd_ne ndx] at hdx; exact hdx
      have eH : upd (upd (upd H1 a (exo a cm none)) dx (exd dx [("limit", .int i)])) a (exo a cm (some dx)) = upd (upd H1 dx (exd dx [("limit", .int i)])) a (exo a cm (some dx)) := by
        funext b
        by_cases hb : b = a
        · rw [hb, upd_same, upd_same]
        · rw [upd_ne hb, upd_ne hb]
          by_cases hb2 : b = dx
          · rw [hb2, upd_same, upd_same]
          · rw [upd_ne hb2, upd_ne hb2, upd_ne hb]
      rw [eH]
      have nt : ∀ {fs : List (Str × V)} {e : Addr} {ps : Array Value}, exd e fs ≠ .tbl ps := fun z => by
        have z' : HO.ext _ = HO.tbl _ := z
        cases z'
      have F1 := E1.new (p := dx) (o := exd dx [("limit", .int i)]) hdx1 (fun _ => nt) trivial
      have F2 := F1.new (p := a) (o := exo a cm (some dx)) (by rw [upd_ne (Ne.symm ndx)]; exact ha) (fun _ => exo_tbl) trivial
      refine q _ _ F2 ((Le.upd (E1.gnone hdx1)).trans (Le.upd (by rw [upd_ne (Ne.symm ndx)]; exact E1.gnone ha))) _ ?_
      rw [hV]
      refine ⟨a, dx, rfl, upd_same, ?_⟩
      rw [upd_ne ndx, upd_same]
    · exact False.elim q
  · exact False.elim q
/-- [e, ..] -/
def sLstV (f : Rho → O (List D)) : Rho → O D := fun ρ => (f ρ).bind fun l ρ1 => if l.length ≤ 1000 then .ok (.list l) ρ1 else .no
theorem g_lstV {es : List Expr} {pos : Pos} {f : Rho → O (List D)} (hV : B.RV = relE cl cm) (h : PA X es (tVs B Wx 0 f)) : PE X (.List es pos) (tVv B Wx 1 (sLstV f)) :=
  (pe_lst h).imp' fun σ H Q ⟨S, ρ, G, E, P⟩ => by
    refine ⟨S, ρ, G, E, P.bind.imp fun l ρ1 H1 G1 E1 le1 q vs hvs => ?_⟩
    split at q
    · rename_i hl
      refine ⟨by rw [hvs.1]; exact le_line hl, fun p hp => ?_⟩
      have E2 := E1.new (p := p) (o := .lst vs) hp (fun _ => HO.noConfusion) (show vs.length ≤ sizeLine by rw [hvs.1]; exact le_line hl)
      refine q _ _ E2 (Le.upd (E1.gnone hp)) _ ?_
      rw [hV]
      refine ⟨p, vs, rfl, upd_same, hvs.1, fun i d u h1 h2 => ?_⟩
      have z := hvs.2 i d u h1 h2
      rw [hV] at z
      exact excV_up (Le.upd (E1.gnone hp)) z
    · exact False.elim q
/-- xs + ys -/
def dCatV (x y : D) : Option D := match x, y with
  | .list a, .list b => if a.length + b.length ≤ 1000 then some (.list (a ++ b)) else none
  | _, _ => none
def sCatV (fa fb : Rho → O D) : Rho → O D := s2 dCatV fa fb
theorem g_catV {a b : Expr} {pos : Pos} {fa fb : Rho → O D} (hK : X.K = B.K) (hV : B.RV = relE cl cm) (ha : PE X a (tVv B Wx 1 fa)) (hb : PE X b (tVv B Wx 1 fb)) : PE X (.BinOp a .Add b pos) (tVv B Wx 1 (sCatV fa fb)) :=
  (pe_op op_catL ha hb).imp' fun σ H Q ⟨S, ρ, G, E, P⟩ => by
    refine ⟨S, ρ, G, E, P.bind.imp fun x ρ1 H1 G1 E1 le1 q v hv => ?_⟩
    refine ⟨S, ρ1, G1, E1, q.bind.imp fun y ρ2 H2 G2 E2 le2 q2 w hw => ?_⟩
    unfold dCatV at q2
    split at q2
    · rename_i l1 l2
      split at q2
      · rename_i hz
        rw [hV] at hv hw
        obtain ⟨p1, us, rfl, a1, a2, a3⟩ := hv
        obtain ⟨p2, ws, rfl, b1, b2, b3⟩ := hw
        refine ⟨p1, p2, us, ws, rfl, rfl, .inl (.inl (E2.sub _ _ (le2 _ _ a1))), .inl (.inl (E2.sub _ _ b1)), by rw [a2, b2]; exact le_line hz, fun p hp => ?_⟩
        have E3 := E2.new (p := p) (o := .lst (us ++ ws)) hp (fun _ => HO.noConfusion) (show (us ++ ws).length ≤ sizeLine by rw [List.length_append, a2, b2]; exact le_line hz)
        refine q2 _ _ E3 (Le.upd (E2.gnone hp)) _ ?_
        rw [hV]
        refine ⟨p, us ++ ws, rfl, upd_same, by rw [List.length_append, List.length_append, a2, b2], fun i d u h1 h2 => ?_⟩
        by_cases hi : i < l1.length
        · rw [List.getElem?_append_left hi] at h1
          rw [List.getElem?_append_left (by rw [a2]; exact hi)] at h2
          exact excV_up (Le.trans le2 (Le.upd (E2.gnone hp))) (a3 i d u h1 h2)
        · have hi : l1.length ≤ i := by omega
          rw [List.getElem?_append_right hi] at h1
          rw [List.getElem?_append_right (by rw [a2]; exact hi), a2] at h2
          exact excV_up (Le.upd (E2.gnone hp)) (b3 _ d u h1 h2)
      · exact False.elim q2
    · exact False.elim q2
/-- xs[i] -/
def dItV (x y : D) : Option D := match x, y with
  | .list l, .int i => atI l i
  | _, _ => none
theorem g_itV {a b : Expr} {pos : Pos} {fa fb : Rho → O D} (hK : X.K = B.K) (hV : B.RV = relE cl cm) (ha : PE X a (tVv B Wx 1 fa)) (hb : PE X b (tEv B Wx fb)) (hs : PlainIx b := by exact fun _ _ => rfl) : PE X (.Subscript a b pos) (tVv B Wx 0 (s2 dItV fa fb)) :=
  (pe_ix ix_list ha hb hs).imp' fun σ H Q ⟨S, ρ, G, E, P⟩ => by
    refine ⟨S, ρ, G, E, P.bind.imp fun x ρ1 H1 G1 E1 le1 q v hv => ?_⟩
    refine ⟨S, ρ1, G1, E1, q.bind.imp fun y ρ2 H2 G2 E2 le2 q2 w hw => ?_⟩
    unfold dItV at q2
    split at q2
    · rename_i l i
      cases e : atI l i with
      | none => rw [e] at q2; exact False.elim q2
      | some d =>
        rw [e] at q2
        rw [hV] at hv
        obtain ⟨p1, us, rfl, a1, a2, a3⟩ := hv
        unfold atI at e
        cases en : ixN l.length i with
        | none => rw [en] at e; cases e
        | some n =>
          rw [en] at e
          have e : l[n]? = some d := e
          have hn : n < l.length := (List.getElem?_eq_some_iff.mp e).1
          have hu : us[n]? = some (us[n]'(by rw [a2]; exact hn)) := List.getElem?_eq_getElem _
          refine ⟨p1, us, i, us[n]'(by rw [a2]; exact hn), rfl, dint hw, .inl (.inl (E2.sub _ _ (le2 _ _ a1))), ?_, q2 H2 G2 E2 Le.refl _ ?_⟩
          · show (ixN us.length i).bind (fun j => us[j]?) = _
            have en' : ixN us.length i = some n := by rw [a2]; exact en
            rw [en']; exact hu
          · rw [hV]; exact excV_up le2 (a3 n d _ e hu)
    · exact False.elim q2
def sLenV (fa : Rho → O D) : Rho → O D := fun ρ => (fa ρ).bind fun d ρ1 => match d with
  | .list l => .ok (.int l.length) ρ1
  | _ => .no
theorem g_lenV {e : Expr} {p pos : Pos} {fa : Rho → O D} (hK : X.K = B.K) (hV : B.RV = relE cl cm) (hm : X.mg "len" = none) (he : PE X e (tVv B Wx 1 fa)) (hg : Gl X "len" := by rfl) (hs : starEach [e] X.env = (false, eval e X.env) :: starEach [] X.env := by rfl) (hpl : (backTo pos (starEach [] X.env)).any (·.1) = false := by rfl) :
    PE X (.Call (.Name "len" p) [e] [] pos) (tEv B Wx (sLenV fa)) :=
  (pe_callB call_len hg hm (by decide +kernel) (pa_cons he pa_nil hs) (by decide) (by decide) hs hpl).imp' fun σ H Q ⟨S, ρ, G, E, P⟩ => by
    refine ⟨S, ρ, G, E, P.bind.imp fun x ρ1 H1 G1 E1 le1 q v hv => ?_⟩
    split at q
    · rename_i l
      rw [hV] at hv
      obtain ⟨p1, us, rfl, a1, a2, a3⟩ := hv
      refine ⟨_, us.length, rfl, .inl ⟨us, .inl (.inl (E1.sub _ _ a1)), rfl⟩, ?_⟩
      rw [a2]
      exact q H1 G1 E1 Le.refl _ (.int _)
    · exact False.elim q
/-- all that is asked of the classes -/
structure ErVs (K : PySem.W.Frag) (cl : Str → Option Addr) (cm : Addr) : Prop where
  own : ∀ nm C, cl nm = some C → ErV K C
  lim : ErV K cm
  xf : XfC K cm
  no : PySem.W.findIn K (.ref cm) "limit" = some none
/-- isinstance(e, c): bf tells by the class -/
def sIsV (bf : Str → Bool) (fe : Rho → O D) : Rho → O D := fun ρ => (fe ρ).bind fun d ρ1 => .ok (.bool (bf (clsD d))) ρ1
structure KitB (K : PySem.W.Frag) (cl : Str → Option Addr) (cm : Addr) (cv : Value) (bf : Str → Bool) : Prop where
  own : ∀ nm C, cl nm = some C → PySem.W.kitOne K (.ref C) cv = some (bf nm)
  lim : PySem.W.kitOne K (.ref cm) cv = some (bf "TooMany")
theorem isV_at {V0 : ErVs B.K cl cm} {cv : Value} {c : V} {bf : Str → Bool} {d : D} {v : V} {H : Hp} {Q : VK} (kb : KitB B.K cl cm cv bf) (hc : ∀ u, RelV c u → u = cv) (h : excV cl cm d H v) (q : Q (.bl (bf (clsD d))) H) :
    ∃ (a D : Addr) (c' : V) (cv : Value) (b : Bool), [v, c] = [.ref a, c'] ∧ ErV B.K D ∧ TrE H a D ∧ (∀ u, RelV c' u → u = cv) ∧ PySem.W.kitOne B.K (.ref D) cv = some b ∧ Q (.bl b) H := by
  unfold excV at h
  split at h
  · rename_i nm m
    obtain ⟨a, C, t0, rfl, h2, h3, h4⟩ := h
    exact ⟨a, C, c, cv, _, rfl, V0.own nm C h2, .inl ⟨t0, h3⟩, hc, kb.own nm C h2, q⟩
  · rename_i i
    obtain ⟨a, dx, rfl, h2, h3⟩ := h
    exact ⟨a, cm, c, cv, _, rfl, V0.lim, .inr ⟨dx, _, h2, h3⟩, hc, kb.lim, q⟩
  · exact h.elim
theorem g_isV {e : Expr} {c : Str} {C' : Addr} {bf : Str → Bool} {p1 p3 pos : Pos} {fe : Rho → O D} (hK : X.K = B.K) (hV : B.RV = relE cl cm) (V0 : ErVs B.K cl cm) (hm : X.mg "isinstance" = none) (hc : X.mg c = some (.ref C')) (kb : KitB B.K cl cm (.ref C') bf) (he : PE X e (tVv B Wx 0 fe))
    (hg : Gl X "isinstance" := by rfl) (hgc : Gl X c := by rfl) (hdc : (c == ("__debug__" : Str)) = false := by decide)
    (hs : starEach [e, .Name c p3] X.env = (false, eval e X.env) :: starEach [.Name c p3] X.env := by rfl) (hs2 : starEach [.Name c p3] X.env = (false, eval (.Name c p3) X.env) :: starEach [] X.env := by rfl) (hpl : (backTo pos (starEach [.Name c p3] X.env)).any (·.1) = false := by rfl) :
    PE X (.Call (.Name "isinstance" p1) [e, .Name c p3] [] pos) (tEv B Wx (sIsV bf fe)) :=
  (pe_callB call_isV hg hm (by decide +kernel) (pa_cons he (pa_cons (pe_glob (v := V.ref C') hgc hc rfl hdc) pa_nil hs2) hs) (by decide) (by decide) hs hpl).imp' fun σ H Q ⟨S, ρ, G, E, P⟩ => by
    refine ⟨S, ρ, G, E, P.bind.imp fun x ρ1 H1 G1 E1 le1 q v hv => ?_⟩
    rw [hV] at hv
    rw [hK]
    exact isV_at (V0 := V0) kb (fun u hu => hu) (excV_up E1.sub hv) (q H1 G1 E1 Le.refl _ (.bl _))
theorem g_isVt {e : Expr} {c : Str} {T : String} {bf : Str → Bool} {p1 p3 pos : Pos} {fe : Rho → O D} (hK : X.K = B.K) (hV : B.RV = relE cl cm) (V0 : ErVs B.K cl cm) (hm : X.mg "isinstance" = none) (hc : X.mg c = none) (kb : KitB B.K cl cm (.type T) bf) (he : PE X e (tVv B Wx 0 fe)) (hbt : bootBuiltins c = some (.type T) := by decide +kernel)
    (hg : Gl X "isinstance" := by rfl) (hgc : Gl X c := by rfl) (hdc : (c == ("__debug__" : Str)) = false := by decide) (hnc : c ≠ "__name__" := by decide)
    (hs : starEach [e, .Name c p3] X.env = (false, eval e X.env) :: starEach [.Name c p3] X.env := by rfl) (hs2 : starEach [.Name c p3] X.env = (false, eval (.Name c p3) X.env) :: starEach [] X.env := by rfl) (hpl : (backTo pos (starEach [.Name c p3] X.env)).any (·.1) = false := by rfl) :
    PE X (.Call (.Name "isinstance" p1) [e, .Name c p3] [] pos) (tEv B Wx (sIsV bf fe)) :=
  (pe_callB call_isV hg hm (by decide +kernel) (pa_cons he (pa_cons (pe_bltn (v := V.ty T) hgc hc hbt rfl hnc hdc) pa_nil hs2) hs) (by decide) (by decide) hs hpl).imp' fun σ H Q ⟨S, ρ, G, E, P⟩ => by
    refine ⟨S, ρ, G, E, P.bind.imp fun x ρ1 H1 G1 E1 le1 q v hv => ?_⟩
    rw [hV] at hv
    rw [hK]
    exact isV_at (V0 := V0) kb (fun u hu => hu) (excV_up E1.sub hv) (q H1 G1 E1 Le.refl _ (.bl _))
def sStrV (fe : Rho → O D) : Rho → O D := fun ρ => (fe ρ).bind fun d ρ1 => match d with
  | .tuple [.str _, .str m] => .ok (.str m) ρ1
  | _ => .no
theorem g_strV {e : Expr} {p1 pos : Pos} {fe : Rho → O D} (hK : X.K = B.K) (hV : B.RV = relE cl cm) (V0 : ErVs B.K cl cm) (hu : X.A.units + 2 < cLine) (hm : X.mg "str" = none) (he : PE X e (tVv B Wx 0 fe)) (hg : Gl X "str" := by rfl)
    (hs : starEach [e] X.env = (false, eval e X.env) :: starEach [] X.env := by rfl) (hpl : (backTo pos (starEach [] X.env)).any (·.1) = false := by rfl) :
    PE X (.Call (.Name "str" p1) [e] [] pos) (tEv B Wx (sStrV fe)) :=
  (pe_callTy (call_strV hu) hg hm (by decide +kernel) (pa_cons he pa_nil hs) (by decide) (by decide) hs hpl).imp' fun σ H Q ⟨S, ρ, G, E, P⟩ => by
    refine ⟨S, ρ, G, E, P.bind.imp fun x ρ1 H1 G1 E1 le1 q v hv => ?_⟩
    split at q
    · rw [hV] at hv
      obtain ⟨a, C, t0, rfl, h2, h3, h4⟩ := hv
      rw [hK]
      exact ⟨a, C, t0, _, rfl, V0.own _ C h2, E1.sub _ _ h3, E1.sub _ _ h4, q H1 G1 E1 Le.refl _ (.str _)⟩
    · exact False.elim q
def sLimD (fe : Rho → O D) : Rho → O D := fun ρ => (fe ρ).bind fun d ρ1 => match d with
  | .int i => .ok (.int i) ρ1
  | _ => .no
theorem g_limD {e : Expr} {pos : Pos} {fe : Rho → O D} (hK : X.K = B.K) (hV : B.RV = relE cl cm) (V0 : ErVs B.K cl cm) (he : PE X e (tVv B Wx 0 fe)) (hb : attributeBase e "limit" X.env (eval e X.env) = eval e X.env := by rfl) : PE X (.Attribute e "limit" pos) (tEv B Wx (sLimD fe)) :=
  (pe_xfV he hb).imp' fun σ H Q ⟨S, ρ, G, E, P⟩ => by
    refine ⟨S, ρ, G, E, P.bind.imp fun x ρ1 H1 G1 E1 le1 q v hv => ?_⟩
    split at q
    · rw [hV] at hv
      obtain ⟨a, dx, rfl, h2, h3⟩ := hv
      rw [hK]
      exact ⟨a, cm, dx, _, _, rfl, V0.xf, V0.no, E1.sub _ _ h2, E1.sub _ _ h3, rfl, q H1 G1 E1 Le.refl _ (.int _)⟩
    · exact False.elim q
end
end Rf

set_option maxRecDepth 100000
set_option maxHeartbeats 4000000
/-! # defs of one such value, of none; their calls -/
namespace Rf
open PySem PySem.Spec PyProof.Rows L2
def mV (f : Nat → D → FD) : FSem := fun cs => match cs with
  | [.rel k d] => match f k d with
    | .ret d => .ret d cs
    | .retO l => .retO l cs
    | .retK l => .retK l cs
    | .retV k l => .retV k l cs
    | .exc e => .exc e cs
    | .no => .no
  | _ => .no
def runV (n : Nat) (fn : Rho → OS) : Nat → D → FD := fun k d => match fn (start0 n [.rel k d]) with
    | .nx _ => .ret .none
    | .ret d _ => .ret d
    | .retO l _ => .retO l
    | .retK l _ => .retK l
    | .retV k l _ => .retV k l
    | .ex e _ => .exc e
    | .no => .no
theorem relNo {k : Nat} {d : D} : (∀ (i : Nat) l, [C.rel k d][i]? ≠ some (C.own l)) ∧ (∀ (i : Nat) l, [C.rel k d][i]? ≠ some (C.ref l)) ∧ (∀ (i : Nat) l, [C.rel k d][i]? ≠ some (C.dct l)) ∧ (∀ (i : Nat) l, [C.rel k d][i]? ≠ some (C.dat l)) ∧ (∀ (i : Nat) l, [C.rel k d][i]? ≠ some (C.raw l)) := by
  refine ⟨?_, ?_, ?_, ?_, ?_⟩ <;>
  · intro i l h
    match i, h with
    | 0, h => cases h
    | i + 1, h => simp at h
section
variable {B : Bs} {P : Program} {w : World} {mg : Str → Option Value} {base : Heap}
theorem EnvOk.relArg {S : Sit} {ρ : Rho} {σ : St} {H G : Hp} (E : EnvOk B S ρ σ H G) {k : Nat} {d : D} {v : V} (h : B.RV k d G v) : EnvOk B (Rf.reb (argsR [.rel k d]) (argsS [v]) H G) (argsR [.rel k d]) (argsS [v]) H G :=
  E.enter rfl (fun i d' e => absurd e (relNo.2.2.2.1 i d')) relNo.1 relNo.2.2.1 (fun i w e => absurd e (relNo.2.2.2.2 i w)) (fun i k' d' e => by match i, e with
      | 0, e => cases e; exact ⟨v, rfl, h⟩
      | i + 1, e => simp at e) (fun i l e => absurd e (relNo.2.1 i l)) fun i j l m e => absurd e (relNo.2.1 i l)
theorem ok_V {x qual : Str} {st : Stmt} {f : Addr} {fd : FuncData} {N ps : List Str} {k : Nat} {fn : Rho → OS} (F : Fun B.K x qual st f fd) (S : FnScope N ps (defScope st)) (h1 : ps.length = 1)
    (hbody : ∀ (cdv : Value) (A : Around) (outer : List Env) (s : Shared) (H : Hp) (E : XK), Room k (A.deeper (envOfC qual (defScope st) s.heap.objs.size f cdv)) →
      PSs (cxOf (L2N.CX P w) P w B.K mg base N qual (defScope st) f cdv A outer s H E) (defBody st) (tSt B (wishOf E) fn)) : FnOk P w B.K mg base (L2N.CX P w) (k + 1) f fd ps (spOf B (mV (runV N.length fn))) := by
  have hps : ps.length ≤ N.length := by have := congrArg List.length S.pre; rw [List.length_take] at this; omega
  have sel : ∀ {cs : List C}, mV (runV N.length fn) cs ≠ .no → ∃ k d, cs = [.rel k d] := fun {cs} h => by
    unfold mV at h
    split at h
    · rename_i k d; exact ⟨k, d, rfl⟩
    · exact absurd rfl h
  refine okN F S (fun vs H Q E h => ?_) (fun cdv hcd A outer s H vs Q E hr h => ?_)
  · obtain ⟨G, cs, no, nk, E0, h⟩ := h
    have hne : mV (runV N.length fn) cs ≠ .no := fun z => by rw [z] at h; exact h
    obtain ⟨kk, d, rfl⟩ := sel hne
    have := E0.len
    unfold argsR argsS at this
    rw [List.length_map, List.length_map] at this
    rw [h1]; exact this.symm
  · obtain ⟨G, cs, no, nk, E0, h⟩ := h
    have hne : mV (runV N.length fn) cs ≠ .no := fun z => by rw [z] at h; exact h
    obtain ⟨kk, d, rfl⟩ := sel hne
    refine ⟨_, hbody cdv A outer s H E hr, ?_⟩
    have hcl : [C.rel kk d].length ≤ N.length := by show 1 ≤ _; omega
    refine ⟨_, _, G, E0.widen hcl, ?_⟩
    have nar : ∀ {ρ' σ' H' G'}, EnvOk B (Rf.reb (start0 N.length [C.rel kk d]) (L2.start N vs) H G) ρ' σ' H' G' → EnvOk B (Rf.reb (argsR [C.rel kk d]) (argsS vs) H G) (argsR [C.rel kk d]) (argsS vs) H' G' := fun E1 =>
      E0.narrow no hcl E1 rfl (fun i d h => h) no nk (fun i v h => h) (fun i k d h => h) (fun i l h => absurd h (relNo.2.1 i l)) (fun i l h => absurd h (relNo.2.1 i l))
    have nw : ∀ {p : Addr}, (Rf.reb (start0 N.length [C.rel kk d]) (L2.start N vs) H G).W p → H p = none := fun {p} g3 => by
      rcases g3 with g3 | ⟨i, m, g3, _⟩ | ⟨i, ks, g3, _⟩
      · exact g3
      · rcases g3 with g3 | g3
        · exact absurd (start0_inv g3) (relNo.1 i m)
        · exact absurd (start0_inv g3) (relNo.2.1 i m)
      · exact absurd (start0_inv g3) (relNo.2.2.1 i ks)
    unfold mV at h
    dsimp only at h
    unfold runV at h
    cases ef : fn (start0 N.length [C.rel kk d]) with
    | nx ρ' =>
      rw [ef] at h
      exact fun σ' H' G' E1 _ => h .non H' G' (nar E1) .non
    | ret d ρ' =>
      rw [ef] at h
      exact fun σ' H' G' E1 _ v hv => h v H' G' (nar E1) hv
    | retO l ρ' =>
      rw [ef] at h
      intro σ' H' G' E1 _ p us g1 g2 g3 g4 g5 g6
      exact h p us H' G' (nar E1) g1 g2 (nw g3) g5 g6
    | retK ks0 ρ' =>
      rw [ef] at h
      intro σ' H' G' E1 _ p g1 g2 g3
      exact h p H' G' (nar E1) g1 g2 (nw g3)
    | retV k d ρ' =>
      rw [ef] at h
      exact fun σ' H' G' E1 _ v hv => h v H' G' (nar E1) hv
    | ex e ρ' =>
      rw [ef] at h
      exact fun cls a σ' H' G' E1 _ ex => h cls a H' G' (nar E1) ex
    | no => rw [ef] at h; exact h
theorem good_V1 {x : Str} {st : Stmt} {N ps : List Str} {k : Nat} {fn : Rho → OS} (d : Def1 B mg x st ps) (S : FnScope N ps (defScope st)) (h1 : ps.length = 1)
    (hbody : ∀ (f : Addr) (cdv : Value) (A : Around) (outer : List Env) (s : Shared) (H : Hp) (E : XK), Room k (A.deeper (envOfC x (defScope st) s.heap.objs.size f cdv)) →
      PSs (cxOf (L2N.CX P w) P w B.K mg base N x (defScope st) f cdv A outer s H E) (defBody st) (tSt B (wishOf E) fn)) : FnGood B P w mg base (k + 1) x ps.length (mV (runV N.length fn)) :=
  let ⟨a, fd, F, hb, hm⟩ := d.ex
  ⟨a, fd, ps, ok_V F S h1 (hbody a), hm, F.kp, hb, rfl⟩
end
section
variable {X : Cx} {B : Bs} {Wx : WX}
def sCallV (f : FSem) (k : Nat) (fa : Rho → O D) : Rho → O D := fun ρ => (fa ρ).bind fun d ρ1 => match f [.rel k d] with
  | .ret d _ => .ok d ρ1
  | .retO l _ => .ok (.list l) ρ1
  | .exc e _ => .ex e ρ1
  | _ => .no
theorem g_callV {k lv n : Nat} {x : Str} {f : FSem} {e : Expr} {p pos : Pos} {fa : Rho → O D} (hK : X.K = B.K) (F : FnGood B X.prog X.w X.mg X.base lv x n f) (hr : Room lv X.A) (tk : L2N.Takes X Wx) (ha : PE X e (tVv B Wx k fa)) (hg : Gl X x := by rfl) (hdb : (x == ("__debug__" : Str)) = false := by decide)
    (he : starEach [e] X.env = (false, eval e X.env) :: starEach [] X.env := by rfl) (hpl : (backTo pos (starEach [] X.env)).any (·.1) = false := by rfl) : PE X (.Call (.Name x p) [e] [] pos) (tEv B Wx (sCallV f k fa)) :=
  pe_late fun σ H Q ⟨S, ρ, G, E, P⟩ => by
    obtain ⟨ad, fd, ps, h1, h2, h3, h4, h5⟩ := F.ex
    rw [← hK] at h1 h3 h4
    have P1 := P.bind
    refine ⟨_, pe_callS h1 hr hg h2 h3 h4 (fun σ => L2N.passAt tk σ) (pa_cons ha pa_nil he) hdb he hpl, ⟨S, ρ, G, E, P1.imp fun d ρ1 H1 G1 E1 le1 P2 v hv => ?_⟩⟩
    refine ⟨G1, [.rel k d], relNo.1, relNo.2.2.1, E1.relArg hv, ?_⟩
    cases ef : f [.rel k d] with
    | no => rw [ef] at P2; exact P2
    | ret d' cs' =>
      rw [ef] at P2
      intro v H' G' E' dv
      obtain ⟨E2, le2⟩ := E1.backD relNo.2.1 relNo.1 relNo.2.2.1 E'
      exact P2 H' G' E2 le2 v dv
    | retO l cs' =>
      rw [ef] at P2
      intro p us H' G' E' g1 g2 g3 g4 g5
      obtain ⟨E2, le2⟩ := E1.backD relNo.2.1 relNo.1 relNo.2.2.1 E'
      have E3 := E2.freeze g1 g2 (S.wn p (E1.there p g3)) (E1.loose g3) g4
      exact P2 H' _ E3 (le2.trans (Le.upd g2)) _ (.lst (SqL.of upd_same) (DpAll.up (Le.upd g2) g5))
    | retK l cs' => rw [ef] at P2; exact P2.elim
    | retV k l cs' => rw [ef] at P2; exact P2.elim
    | exc e' cs' =>
      rw [ef] at P2
      intro cls a H' G' E' ex
      obtain ⟨E2, le2⟩ := E1.backD relNo.2.1 relNo.1 relNo.2.2.1 E'
      exact P2 cls a H' G' E2 le2 ex
/-- f() that gives a value of a kind and raises nothing -/
def sCall0V (f : FSem) (k : Nat) : Rho → O D := fun ρ => match f [] with
  | .retV k' d _ => if k' = k then .ok d ρ else .no
  | _ => .no
theorem passN0 {X : Cx} : Passes (L2N.CX X.prog X.w) X (fun _ _ _ => False) := fun _ _ _ _ _ _ _ h => by
  obtain ⟨a, Bh, H', cls, d, h1, h2, h3, h4, h5, h6, h7, h8⟩ := h
  exact h8.elim
theorem g_call0V {k lv n : Nat} {x : Str} {f : FSem} {p pos : Pos} (hK : X.K = B.K) (F : FnGood B X.prog X.w X.mg X.base lv x n f) (hr : Room lv X.A) (hg : Gl X x := by rfl) (hdb : (x == ("__debug__" : Str)) = false := by decide) : PE X (.Call (.Name x p) [] [] pos) (tVv B Wx k (sCall0V f k)) :=
  pe_late fun σ H Q ⟨S, ρ, G, E, P⟩ => by
    obtain ⟨ad, fd, ps, h1, h2, h3, h4, h5⟩ := F.ex
    rw [← hK] at h1 h3 h4
    refine ⟨_, pe_call0 (E := fun _ _ _ => False) h1 hr hg h2 h3 h4 .nil passN0 hdb, ?_⟩
    unfold sCall0V at P
    have e0 : ([] : List C) = ([] : List D).map C.dat := rfl
    refine ⟨G, [], fun i l h => by simp at h, fun i l h => by simp at h, enterD (ds := []) (vs := []) E .nil, ?_⟩
    cases ef : f [] with
    | no => rw [ef] at P; exact P.elim
    | ret d cs' => rw [ef] at P; exact P.elim
    | retO l cs' => rw [ef] at P; exact P.elim
    | retK l cs' => rw [ef] at P; exact P.elim
    | exc e cs' => rw [ef] at P; exact P.elim
    | retV k' d cs' =>
      rw [ef] at P
      dsimp only at P
      split at P
      · rename_i hk
        subst hk
        intro v H' G' E' dv
        obtain ⟨E2, le2⟩ := E.backD (cs := []) (fun i l h => by simp at h) (fun i l h => by simp at h) (fun i l h => by simp at h) E'
        exact P H' G' E2 le2 v dv
      · exact P.elim
end
end Rf

set_option maxRecDepth 100000
set_option maxHeartbeats 4000000
/-! # what the written part says of all error classes whose errors are values, asked at once -/
namespace Rf
open PySem PySem.Spec PyProof.Rows L2
/-- which classes an error of the class nm is in: its own, the base of all -/
def bfOf (c : Str) : Str → Bool := if c = "SpreadError" then fun _ => true else fun nm => nm == c
def kitAll (K : PySem.W.Frag) (L : List (Str × Addr)) (cm : Addr) (cv : Value) (bf : Str → Bool) : Bool := (L.all fun e => PySem.W.kitOne K (.ref e.2) cv == some (bf e.1)) && PySem.W.kitOne K (.ref cm) cv == some (bf "TooMany")
def valsB (K : PySem.W.Frag) (L : List (Str × Addr)) (cm : Addr) : Bool := (L.all fun e => erVB K e.2 && (PySem.W.excIn K e.2 veBases "ValueError.__new__" && kitAll K L cm (.ref e.2) (bfOf e.1))) && (erVB K cm && (xfB K cm && (PySem.W.findIn K (.ref cm) "limit" == some none &&
  (kitAll K L cm (.ref cm) (bfOf "TooMany") && kitAll K L cm (.type "ValueError") fun _ => true))))
structure ValE (K : PySem.W.Frag) (mg : Str → Option Value) (L : List (Str × Addr)) (cm : Addr) : Prop where
  own : ∀ nm C, (nm, C) ∈ L → mg nm = some (.ref C)
  tm : mg "TooMany" = some (.ref cm)
  ok : valsB K L cm = true
abbrev erNames : List Str := "SpreadError" :: errNames
section
variable {K : PySem.W.Frag} {mg : Str → Option Value} {L : List (Str × Addr)} {cm : Addr}
theorem kit_all {cv : Value} {bf : Str → Bool} (h : kitAll K L cm cv bf = true) : KitB K (clOf L) cm cv bf := by
  simp only [kitAll, Bool.and_eq_true, List.all_eq_true, beq_iff_eq] at h
  exact ⟨fun nm C e => h.1 _ (clOf_mem e), h.2⟩
theorem ValE.at (V : ValE K mg L cm) : (∀ nm C, clOf L nm = some C → mg nm = some (.ref C) ∧ ErV K C ∧ PySem.W.excIn K C veBases "ValueError.__new__" = true ∧ KitB K (clOf L) cm (.ref C) (bfOf nm)) ∧ ErVs K (clOf L) cm ∧ KitB K (clOf L) cm (.ref cm) (bfOf "TooMany") ∧ KitB K (clOf L) cm (.type "ValueError") fun _ => true := by
  have q := V.ok
  simp only [valsB, Bool.and_eq_true, List.all_eq_true, beq_iff_eq] at q
  obtain ⟨q1, q2, q3, q4, q5, q6⟩ := q
  refine ⟨fun nm C e => ?_, ⟨fun nm C e => erV_of (q1 _ (clOf_mem e)).1, erV_of q2, xfB_ok q3, q4⟩, kit_all q5, kit_all q6⟩
  obtain ⟨k1, k2, k3⟩ := q1 _ (clOf_mem e)
  exact ⟨V.own _ _ (clOf_mem e), erV_of k1, k2, kit_all k3⟩
end
section
variable {X : Cx} {B : Bs} {Wx : WX} {L : List (Str × Addr)} {cm : Addr}
theorem gx_new {x m : Str} {j : Nat} {p p2 pos : Pos} (hK : X.K = B.K) (hV : B.RV = relE (clOf L) cm) (V : ValE B.K X.mg L cm) (hx : ∃ C, clOf L x = some C)
    (hg : Gl X x := by rfl) (hs : starEach [.Constant (.str m) j p2] X.env = (false, eval (.Constant (.str m) j p2) X.env) :: starEach [] X.env := by rfl) (hdb : (x == ("__debug__" : Str)) = false := by decide) :
    PE X (.Call (.Name x p) [.Constant (.str m) j p2] [] pos) (tVv B Wx 0 (sCon (.tuple [.str x, .str m]))) := by
  obtain ⟨C, h⟩ := hx
  obtain ⟨h1, h2, h3, _⟩ := V.at.1 x C h
  exact g_exS hK hV h h1 h3 h2.is.kp hg hs hdb
theorem gx_is {e : Expr} {c : Str} {p1 p3 pos : Pos} {fe : Rho → O D} (hK : X.K = B.K) (hV : B.RV = relE (clOf L) cm) (V : ValE B.K X.mg L cm) (hx : (∃ C, clOf L c = some C) ∨ c = "TooMany") (hm : X.mg "isinstance" = none) (he : PE X e (tVv B Wx 0 fe))
    (hg : Gl X "isinstance" := by rfl) (hgc : Gl X c := by rfl) (hdc : (c == ("__debug__" : Str)) = false := by decide)
    (hs : starEach [e, .Name c p3] X.env = (false, eval e X.env) :: starEach [.Name c p3] X.env := by rfl) (hs2 : starEach [.Name c p3] X.env = (false, eval (.Name c p3) X.env) :: starEach [] X.env := by rfl) (hpl : (backTo pos (starEach [.Name c p3] X.env)).any (·.1) = false := by rfl) :
    PE X (.Call (.Name "isinstance" p1) [e, .Name c p3] [] pos) (tEv B Wx (sIsV (bfOf c) fe)) := by
  rcases hx with ⟨C, h⟩ | rfl
  · obtain ⟨h1, h2, h3, h4⟩ := V.at.1 c C h
    exact g_isV hK hV V.at.2.1 hm h1 h4 he hg hgc hdc hs hs2 hpl
  · exact g_isV hK hV V.at.2.1 hm V.tm V.at.2.2.1 he hg hgc hdc hs hs2 hpl
theorem gx_isv {e : Expr} {p1 p3 pos : Pos} {fe : Rho → O D} (hK : X.K = B.K) (hV : B.RV = relE (clOf L) cm) (V : ValE B.K X.mg L cm) (hm : X.mg "isinstance" = none) (hc : X.mg "ValueError" = none) (he : PE X e (tVv B Wx 0 fe))
    (hg : Gl X "isinstance" := by rfl) (hgc : Gl X "ValueError" := by rfl)
    (hs : starEach [e, .Name "ValueError" p3] X.env = (false, eval e X.env) :: starEach [.Name "ValueError" p3] X.env := by rfl) (hs2 : starEach [.Name "ValueError" p3] X.env = (false, eval (.Name "ValueError" p3) X.env) :: starEach [] X.env := by rfl) (hpl : (backTo pos (starEach [.Name "ValueError" p3] X.env)).any (·.1) = false := by rfl) :
    PE X (.Call (.Name "isinstance" p1) [e, .Name "ValueError" p3] [] pos) (tEv B Wx (sIsV (fun _ => true) fe)) :=
  g_isVt hK hV V.at.2.1 hm hc V.at.2.2.2 he (by decide +kernel) hg hgc (by decide) (by decide) hs hs2 hpl
end
end Rf

set_option maxRecDepth 100000
set_option maxHeartbeats 4000000
/-! # a new list, of no slot, lent to a def -/
namespace Rf
open PySem PySem.Spec PyProof.Rows L2
section
variable {X : Cx} {B : Bs} {Wx : WX}
theorem lentNo {l : List D} {ds : List D} : (∀ (i : Nat) m, (C.ref l :: ds.map C.dat)[i]? ≠ some (C.own m)) ∧ (∀ (i : Nat) m, (C.ref l :: ds.map C.dat)[i]? ≠ some (C.dct m)) ∧ (∀ (i : Nat) m, (C.ref l :: ds.map C.dat)[i]? ≠ some (C.raw m)) ∧ (∀ (i k : Nat) m, (C.ref l :: ds.map C.dat)[i]? ≠ some (C.rel k m)) ∧ (∀ (i : Nat) m, (C.ref l :: ds.map C.dat)[i]? = some (C.ref m) → i = 0 ∧ m = l) := by
  refine ⟨fun i m h => ?_, fun i m h => ?_, fun i m h => ?_, fun i k m h => ?_, fun i m h => ?_⟩
  · cases i with
    | zero => cases h
    | succ i => exact (datsNo (ds := ds)).2 i m h
  · cases i with
    | zero => cases h
    | succ i => exact datsK (ds := ds) i m h
  · cases i with
    | zero => cases h
    | succ i => exact datsW (ds := ds) i m h
  · cases i with
    | zero => cases h
    | succ i => exact datsQ (ds := ds) i k m h
  · cases i with
    | zero => cases h; exact ⟨rfl, rfl⟩
    | succ i => exact absurd h ((datsNo (ds := ds)).1 i m)
theorem EnvOk.enterT {S : Sit} {ρ : Rho} {σ : St} {H G : Hp} (E : EnvOk B S ρ σ H G) {a : Addr} {us vs : List V} {l ds : List D} (hp : H a = some (.lst us)) (hg : G a = none) (hd : DpAll B.K G us l) (hz : us.length ≤ sizeLine) (h : DpAll B.K G vs ds) :
    EnvOk B (Rf.reb (argsR (.ref l :: ds.map .dat)) (argsS (.ref a :: vs)) H G) (argsR (.ref l :: ds.map .dat)) (argsS (.ref a :: vs)) H G := by
  have sget : ∀ (i : Nat) v, (V.ref a :: vs)[i]? = some v → (argsS (.ref a :: vs))[i]? = some (some v) := fun i v h => by
    unfold argsS
    rw [List.getElem?_map, h]; rfl
  have hh : ∀ (i : Nat) m, Hd (argsR (C.ref l :: ds.map C.dat)) i m → i = 0 ∧ m = l := fun i m h => by
    rcases h with h | h
    · exact absurd (argsR_ref h) (lentNo.1 i m)
    · exact lentNo.2.2.2.2 i m (argsR_ref h)
  exact {
    sub := E.sub
    nt := E.nt
    sz := E.sz
    j := E.j
    keep := fun b o e _ _ => e
    there := fun b e => e
    gsub := fun b o e => e
    gnew := fun b o e => .inl e
    len := by unfold argsR argsS; rw [List.length_map, List.length_map, List.length_cons, List.length_cons, List.length_map, h.length]
    dat := fun i d e => by
      have e := argsR_ref e
      cases i with
      | zero => cases e
      | succ i =>
        obtain ⟨v, h1, h2⟩ := h.get (dats_get (show (ds.map C.dat)[i]? = some _ from e))
        exact ⟨v, sget (i + 1) v h1, h2⟩
    dct := fun i ks e => absurd (argsR_ref e) (lentNo.2.1 i ks)
    raw := fun i v e => absurd (argsR_ref e) (lentNo.2.2.1 i v)
    rel := fun i k d e => absurd (argsR_ref e) (lentNo.2.2.2.1 i k d)
    dnq := fun i j ks ks' e _ => absurd (argsR_ref e) (lentNo.2.1 i ks)
    held := fun i m e => by
      obtain ⟨rfl, rfl⟩ := hh i m e
      exact ⟨a, us, sget 0 _ rfl, hp, hg, hd, .inr (.inl ⟨0, m, e, sget 0 _ rfl⟩), hz⟩
    ref := fun i l h => ⟨rfl, l, h⟩
    sep := fun i j m n hij e1 e2 => by
      obtain ⟨rfl, _⟩ := hh i m e1
      obtain ⟨rfl, _⟩ := hh j n e2
      exact absurd rfl hij
    isref := fun i l h => ⟨l, h⟩ }
theorem EnvOk.backT {S : Sit} {ρ : Rho} {σ : St} {H G H' G' : Hp} (E : EnvOk B S ρ σ H G) {l l' : List D} {a : Addr} {us : List V} {ds : List D} {cs' : List C} {vs : List V} (hp : H a = some (.lst us)) (hg : G a = none) (hw : S.W a) (lo : Loose ρ σ a)
    (E' : EnvOk B (Rf.reb (argsR (.ref l :: ds.map .dat)) (argsS (.ref a :: vs)) H G) (argsR (.ref l' :: cs')) (argsS (.ref a :: vs)) H' G') : EnvOk B S ρ σ H' G' ∧ Le G G' := by
  have wc : ∀ b, (Rf.reb (argsR (.ref l :: ds.map .dat)) (argsS (.ref a :: vs)) H G).W b → H b = none ∨ b = a := fun b hb => by
    rcases hb with hb | ⟨x, m, hb, hs⟩ | ⟨x, ks, hb, _⟩
    · exact .inl hb
    · have : x = 0 := by
        rcases hb with hb | hb
        · exact absurd (argsR_ref hb) (lentNo.1 x m)
        · exact (lentNo.2.2.2.2 x m (argsR_ref hb)).1
      subst this
      have z : (argsS (.ref a :: vs))[0]? = some (some (V.ref a)) := rfl
      rw [z] at hs
      cases hs
      exact .inr rfl
    · exact absurd (argsR_ref hb) (lentNo.2.1 x ks)
  obtain ⟨a', ws, k1, k2, k3, k4, k5, k6⟩ := E'.held 0 l' (.inr rfl)
  have z : (argsS (.ref a :: vs))[0]? = some (some (V.ref a)) := rfl
  rw [z] at k1
  cases k1
  have E1 := E.upl (ws := ws) hp hg hw lo
  refine ⟨E1.grow (fun b o e t => ?_) (fun b e => ?_) (fun b o e => E'.gsub b o e) (fun b o e => ?_) E'.sub E'.nt E'.sz E'.j, fun b o e => E'.gsub b o e⟩
  · by_cases hb : b = a
    · subst hb; rw [upd_same] at e; cases e; exact k2
    · rw [upd_ne hb] at e
      exact E'.keep b o e (fun w => by
        rcases wc b w with w | w
        · rw [w] at e; cases e
        · exact hb w) t
  · by_cases hb : b = a
    · subst hb; rw [k2] at e; cases e
    · rw [upd_ne hb]; exact E'.there b e
  · rcases E'.gnew b o e with h | h
    · exact .inl h
    · rcases wc b h with h | h
      · by_cases hb : b = a
        · subst hb; rw [k3] at e; cases e
        · exact .inr (by rw [upd_ne hb]; exact h)
      · subst h; rw [k3] at e; cases e
/-- f(e, c): e a new list that f may change, c a number -/
def sCallT (f : FSem) (fa : Rho → O (List D)) (c : Int) : Rho → O D := fun ρ => (fa ρ).bind fun l ρ1 => match f [.ref l, .dat (.int c)] with
  | .ret d (.ref _ :: _) => .ok d ρ1
  | .exc e (.ref _ :: _) => .ex e ρ1
  | _ => .no
theorem g_callT {lv n j : Nat} {x : Str} {f : FSem} {e : Expr} {c : Int} {p p2 pos : Pos} {fa : Rho → O (List D)} (hK : X.K = B.K) (F : FnGood B X.prog X.w X.mg X.base lv x n f) (hr : Room lv X.A) (tk : L2N.Takes X Wx) (ha : PE X e (tEo B Wx fa)) (hg : Gl X x := by rfl) (hdb : (x == ("__debug__" : Str)) = false := by decide)
    (he : starEach [e, .Constant (.int c) j p2] X.env = (false, eval e X.env) :: starEach [.Constant (.int c) j p2] X.env := by rfl) (he2 : starEach [.Constant (.int c) j p2] X.env = (false, eval (.Constant (.int c) j p2) X.env) :: starEach [] X.env := by rfl) (hpl : (backTo pos (starEach [.Constant (.int c) j p2] X.env)).any (·.1) = false := by rfl) :
    PE X (.Call (.Name x p) [e, .Constant (.int c) j p2] [] pos) (tEv B Wx (sCallT f fa c)) :=
  pe_late fun σ H Q ⟨S, ρ, G, E, P⟩ => by
    obtain ⟨ad, fd, ps, h1, h2, h3, h4, h5⟩ := F.ex
    rw [← hK] at h1 h3 h4
    have P1 := P.bind
    refine ⟨_, pe_callS h1 hr hg h2 h3 h4 (fun σ => L2N.passAt tk σ) (pa_cons ha (pa_cons pe_int pa_nil he2) he) hdb he hpl, ⟨S, ρ, G, E, P1.imp fun l ρ1 H1 G1 E1 le1 P2 p us g1 g2 g3 g4 g5 g6 => ?_⟩⟩
    refine ⟨G1, [.ref l, .dat (.int c)], (lentNo (ds := [.int c])).1, (lentNo (ds := [.int c])).2.1, E1.enterT (ds := [.int c]) g1 g2 g6 g5 (.cons (.int c) .nil), ?_⟩
    cases ef : f [.ref l, .dat (.int c)] with
    | no => rw [ef] at P2; exact P2
    | ret d cs' =>
      rw [ef] at P2
      intro v H' G' E' dv
      match cs', P2, E' with
      | .ref l' :: r, P2, E' =>
        obtain ⟨E2, le2⟩ := E1.backT (ds := [.int c]) g1 g2 g3 g4 E'
        exact P2 H' G' E2 le2 v dv
      | [], P2, E' => exact False.elim P2
      | .dat _ :: _, P2, E' => exact False.elim P2
      | .own _ :: _, P2, E' => exact False.elim P2
      | .dct _ :: _, P2, E' => exact False.elim P2
      | .raw _ :: _, P2, E' => exact False.elim P2
      | .rel _ _ :: _, P2, E' => exact False.elim P2
    | retO l2 cs' => rw [ef] at P2; exact P2.elim
    | retK l2 cs' => rw [ef] at P2; exact P2.elim
    | retV k l2 cs' => rw [ef] at P2; exact P2.elim
    | exc e' cs' =>
      rw [ef] at P2
      intro cls b H' G' E' ex
      match cs', P2, E' with
      | .ref l' :: r, P2, E' =>
        obtain ⟨E2, le2⟩ := E1.backT (ds := [.int c]) g1 g2 g3 g4 E'
        exact P2 cls b H' G' E2 le2 ex
      | [], P2, E' => exact False.elim P2
      | .dat _ :: _, P2, E' => exact False.elim P2
      | .own _ :: _, P2, E' => exact False.elim P2
      | .dct _ :: _, P2, E' => exact False.elim P2
      | .raw _ :: _, P2, E' => exact False.elim P2
      | .rel _ _ :: _, P2, E' => exact False.elim P2
end
end Rf

set_option maxRecDepth 100000
set_option maxHeartbeats 4000000
namespace Rf
open PySem PySem.Spec PyProof.Rows L2
/-! ### comprehensions and loops, as lists -/
theorem lc_pure {t : Tg} {vs : List Nat} {fc fe : Rho → O D} {ρ0 : Rho} (p : D → Bool) (g : D → D) : ∀ {xs : List D}, (∀ x ∈ xs, ∃ ρx, Rf.bindT t x ρ0 = some ρx ∧ fc ρx = .ok (.bool (p x)) ρx ∧ (p x = true → fe ρx = .ok (g x) ρx) ∧ wipeR ρx vs = ρ0) → lcGo t vs fc fe xs ρ0 = .ok ((xs.filter p).map g) ρ0
  | [], _ => rfl
  | x :: xs, h => by
    obtain ⟨ρx, h1, h2, h3, h4⟩ := h x List.mem_cons_self
    have ih := lc_pure p g fun y hy => h y (List.mem_cons_of_mem _ hy)
    unfold lcGo
    rw [h1]
    dsimp only
    rw [h2]
    cases e : p x with
    | true =>
      dsimp only
      rw [h3 e]
      dsimp only
      rw [h4, ih, List.filter_cons_of_pos e]
      rfl
    | false =>
      dsimp only
      rw [h4, ih, List.filter_cons_of_neg (by rw [e]; decide)]
theorem slc_pure {t : Tg} {vs : List Nat} {fi : Rho → O (List D)} {fc fe : Rho → O D} {ρ ρ0 : Rho} {xs : List D} (p : D → Bool) (g : D → D) (hi : fi ρ = .ok xs ρ) (hn : notHeld ρ vs = true) (hw : wipeR ρ vs = ρ0) (hr : restR ρ ρ0 vs = ρ)
    (h : ∀ x ∈ xs, ∃ ρx, Rf.bindT t x ρ0 = some ρx ∧ fc ρx = .ok (.bool (p x)) ρx ∧ (p x = true → fe ρx = .ok (g x) ρx) ∧ wipeR ρx vs = ρ0) : sLc t vs fi fc fe ρ = .ok ((xs.filter p).map g) ρ := by
  unfold sLc
  rw [hi]
  show (if notHeld ρ vs = true then _ else _) = _
  rw [if_pos hn, hw, lc_pure p g h]
  dsimp only
  rw [hr]
theorem lc2_pure {t t1 : Tg} {vs vs1 : List Nat} {fc fc1 fe : Rho → O D} {fi1 : Rho → O (List D)} {ρ0 : Rho} (zs : D → List D) : ∀ {xs : List D}, (∀ x ∈ xs, ∃ ρx ys ρy, Rf.bindT t x ρ0 = some ρx ∧ fc ρx = .ok (.bool true) ρx ∧ fi1 ρx = .ok ys ρx ∧ notHeld ρx vs1 = true ∧ lcGo t1 vs1 fc1 fe ys (wipeR ρx vs1) = .ok (zs x) ρy ∧ wipeR ρy vs = ρ0) → lc2Go t vs fc fi1 t1 vs1 fc1 fe xs ρ0 = .ok (xs.flatMap zs) ρ0
  | [], _ => rfl
  | x :: xs, h => by
    obtain ⟨ρx, ys, ρy, h1, h2, h3, h4, h5, h6⟩ := h x List.mem_cons_self
    have ih := lc2_pure zs fun y hy => h y (List.mem_cons_of_mem _ hy)
    unfold lc2Go
    rw [h1]
    dsimp only
    rw [h2]
    dsimp only
    rw [h3]
    dsimp only
    rw [if_pos h4, h5]
    dsimp only
    rw [h6, ih]
    rfl
theorem slc2_pure {t t1 : Tg} {vs vs1 : List Nat} {fi fi1 : Rho → O (List D)} {fc fc1 fe : Rho → O D} {ρ ρ0 : Rho} {xs : List D} (zs : D → List D) (hi : fi ρ = .ok xs ρ) (hn : notHeld ρ vs = true) (hw : wipeR ρ vs = ρ0) (hr : restR ρ ρ0 vs = ρ) (hl : (xs.flatMap zs).length ≤ 16777216)
    (h : ∀ x ∈ xs, ∃ ρx ys ρy, Rf.bindT t x ρ0 = some ρx ∧ fc ρx = .ok (.bool true) ρx ∧ fi1 ρx = .ok ys ρx ∧ notHeld ρx vs1 = true ∧ lcGo t1 vs1 fc1 fe ys (wipeR ρx vs1) = .ok (zs x) ρy ∧ wipeR ρy vs = ρ0) : sLc2 t vs fi fc fi1 t1 vs1 fc1 fe ρ = .ok (xs.flatMap zs) ρ := by
  unfold sLc2
  rw [hi]
  show (if notHeld ρ vs = true then _ else _) = _
  rw [if_pos hn, hw, lc2_pure zs h]
  dsimp only
  rw [if_pos hl, hr]
theorem for_rel {t : Tg} {f : Rho → OS} {σ : Type} (P : σ → Rho → Prop) (step : σ → D → σ) : ∀ {xs : List D} {s : σ} {ρ : Rho}, P s ρ → (∀ x ∈ xs, ∀ s ρ, P s ρ → ∃ ρ1 ρ2, Rf.bindT t x ρ = some ρ1 ∧ f ρ1 = .nx ρ2 ∧ P (step s x) ρ2) → ∃ ρ', forGo t f xs ρ = .nx ρ' ∧ P (xs.foldl step s) ρ'
  | [], s, ρ, h, _ => ⟨ρ, rfl, h⟩
  | x :: xs, s, ρ, h, k => by
    obtain ⟨ρ1, ρ2, h1, h2, h3⟩ := k x List.mem_cons_self s ρ h
    obtain ⟨ρ', h4, h5⟩ := for_rel P step h3 fun y hy => k y (List.mem_cons_of_mem _ hy)
    refine ⟨ρ', ?_, h5⟩
    unfold forGo
    rw [h1]
    dsimp only
    rw [h2]
    exact h4
/-- by the number of turns -/
theorem for_num {t : Tg} {f : Rho → OS} (P : Nat → Rho → Prop) : ∀ {xs : List D} {n : Nat} {ρ : Rho}, P n ρ → (∀ x ∈ xs, ∀ m ρ, P m ρ → ∃ ρ1 ρ2, Rf.bindT t x ρ = some ρ1 ∧ f ρ1 = .nx ρ2 ∧ P (m + 1) ρ2) → ∃ ρ', forGo t f xs ρ = .nx ρ' ∧ P (n + xs.length) ρ'
  | [], n, ρ, h, _ => ⟨ρ, rfl, h⟩
  | x :: xs, n, ρ, h, k => by
    obtain ⟨ρ1, ρ2, h1, h2, h3⟩ := k x List.mem_cons_self n ρ h
    obtain ⟨ρ', h4, h5⟩ := for_num P h3 fun y hy => k y (List.mem_cons_of_mem _ hy)
    refine ⟨ρ', ?_, by rw [List.length_cons, show n + (xs.length + 1) = n + 1 + xs.length by omega]; exact h5⟩
    unfold forGo
    rw [h1]
    dsimp only
    rw [h2]
    exact h4
/-! ### what can be compared -/
def shK (k : Nat) (d : D) : Prop := d.canLay0 = true ∧ d.depth ≤ k
theorem sh_of {k : Nat} {d : D} (h : shK k d) (hk : k ≤ 64 := by decide) : shaped d = true := Bool.and_eq_true_iff.mpr ⟨h.1, decide_eq_true (Nat.le_trans h.2 hk)⟩
theorem sh_all {k : Nat} : ∀ {xs : List D}, (∀ x ∈ xs, shK k x) → PyData.canLayAll0 xs = true ∧ PyData.depthAll xs ≤ k
  | [], _ => ⟨by simp [PyData.canLayAll0], by simp [PyData.depthAll]⟩
  | x :: xs, h => by
    obtain ⟨h1, h2⟩ := h x List.mem_cons_self
    obtain ⟨h3, h4⟩ := sh_all fun y hy => h y (List.mem_cons_of_mem _ hy)
    exact ⟨by simp [PyData.canLayAll0, h1, h3], by simp only [PyData.depthAll]; omega⟩
theorem sh_list {k : Nat} {xs : List D} (h : ∀ x ∈ xs, shK k x) : shK (k + 1) (.list xs) := ⟨by simp [PyData.canLay0, (sh_all h).1], by have := (sh_all h).2; simp only [PyData.depth]; omega⟩
theorem sh_tup {k : Nat} {xs : List D} (h : ∀ x ∈ xs, shK k x) : shK (k + 1) (.tuple xs) := ⟨by simp [PyData.canLay0, (sh_all h).1], by have := (sh_all h).2; simp only [PyData.depth]; omega⟩
theorem sh_int {k : Nat} (i : Int) : shK k (.int i) := ⟨by simp [PyData.canLay0], by simp [PyData.depth]⟩
theorem sh_ints {k : Nat} (l : List Int) : ∀ x ∈ l.map PyData.int, shK k x := fun x hx => by
  obtain ⟨i, _, rfl⟩ := List.mem_map.mp hx
  exact sh_int i
theorem eqv_ints : ∀ a b : List Int, PyData.eqvAll (a.map PyData.int) (b.map PyData.int) = decide (a = b)
  | [], [] => by simp [PyData.eqvAll]
  | [], b :: bs => by simp [PyData.eqvAll]
  | a :: as, [] => by simp [PyData.eqvAll]
  | a :: as, b :: bs => by
    simp only [List.map_cons, PyData.eqvAll, PyData.eqv, eqv_ints as bs]
    by_cases h1 : a = b
    · by_cases h2 : as = bs
      · simp [h1, h2]
      · simp [h2]
    · simp [h1]
end Rf

set_option maxRecDepth 100000
set_option maxHeartbeats 4000000
namespace K17
open PySem PySem.Spec PyProof.Rows L2 Rf
def top (i : Nat) : Stmt := PySem.Challenge.pw_spreadwebs_k17_error_classes.main.body.getD i (.Pass ⟨0, 0, 0, 0⟩)
structure Txt (B : Bs) (P : Program) (w : World) (mg : Str → Option Value) (base : Heap) (Tb : List (Addr × Str)) (L : List (Str × Addr)) (cm : Addr) : Prop where
  z_ValueError : mg "ValueError" = none
  z_abs : mg "abs" = none
  z_int : mg "int" = none
  z_isinstance : mg "isinstance" = none
  z_len : mg "len" = none
  z_min : mg "min" = none
  z_range : mg "range" = none
  z_str : mg "str" = none
  d__law_pot_of : Def1 B mg "_law_pot_of" (top 17) ["script", "k"]
  d__law_dip : Def1 B mg "_law_dip" (top 18) ["pot", "many"]
  d__law_made : Def1 B mg "_law_made" (top 19) []
  d__law_is : Def1 B mg "_law_is" (top 20) ["one"]
  d_law : Def1 B mg "law" (top 21) ["script"]
  va : ValE B.K mg L cm
  rv : B.RV = relE (clOf L) cm
  nmv : ∀ m ∈ erNames, ∃ D, clOf L m = some D
  lim : LimE B P w mg base "TooMany" 1
section
variable {B : Bs} {P : Program} {w : World} {mg : Str → Option Value} {base : Heap} {Tb : List (Addr × Str)} {L : List (Str × Addr)} {cm : Addr}
abbrev st__law_pot_of : Stmt := top 17
theorem sc__law_pot_of : FnScope ["script", "k", "cell"] ["script", "k"] (defScope st__law_pot_of) := ⟨rfl, rfl, rfl, by decide +kernel, rfl, by decide +kernel, by decide +kernel⟩
def fn__law_pot_of  : Rho → OS := (sSeq (sAsg (.nm 2) (s2 (dBin .Add) (s2 (dBin .Mult) (sCon (.int 21013)) (sVar 1)) (sCon (.int 37)))) (sSeq (sIf (s2 (bCmp .Lt) (sVar 1) (sCall dLen (sCons (sVar 0) sNil))) (sSeq (sAsg (.nm 2) (s2 (dBin .Mod) (sCall dAbs (sCons (sCall dInt (sCons (s2 dIx (sVar 0) (sVar 1)) sNil)) sNil)) (s2 (dBin .Mult) (s2 (dBin .Mult) (s2 (dBin .Mult) (s2 (dBin .Pow) (sCon (.int 10)) (sCon (.int 60))) (s2 (dBin .Pow) (sCon (.int 10)) (sCon (.int 60)))) (s2 (dBin .Pow) (sCon (.int 10)) (sCon (.int 60)))) (s2 (dBin .Pow) (sCon (.int 10)) (sCon (.int 60)))))) sSkip) (sSeq (sIf (s2 (bCmp .Gt) (sCall dLen (sCons (sVar 0) sNil)) (sCon (.int 0))) (sSeq (sAsg (.nm 2) (s2 (dBin .Add) (sVar 2) (s2 (dBin .Mod) (sCall dAbs (sCons (sCall dInt (sCons (s2 dIx (sVar 0) (sCon (.int 0))) sNil)) sNil)) (sCon (.int 1000171))))) sSkip) sSkip) sSkip)) (sSeq (sRetO (sLst (sCons (sIte (s2 (bCmp .GtE) (sVar 2) (s2 (dBin .Pow) (sCon (.int 10)) (sCon (.int 18)))) (sVar 2) (sCon (.int 0))) (sCons (s2 (dBin .Add) (s2 (dBin .Mod) (sCall dInt (sCons (s2 (dBin .Add) (s2 (dBin .Add) (s2 (dBin .Mult) (s2 (dBin .Mod) (sVar 2) (sCon (.int 2147480197))) (sCon (.int 47))) (s2 (dBin .Mult) (sCon (.int 113)) (sVar 1))) (sCon (.int 79))) sNil)) (sCon (.int 2147480197))) (sCon (.int 1))) sNil)))) sSkip)))
theorem body__law_pot_of {k : Nat} (T : Txt B P w mg base Tb L cm)   : ∀ (f : Addr) (cdv : Value) (A : Around) (outer : List Env) (s : Shared) (H : Hp) (E : XK), Room k (A.deeper (envOfC "_law_pot_of" (defScope st__law_pot_of) s.heap.objs.size f cdv)) → PSs (cxOf (L2N.CX P w) P w B.K mg base ["script", "k", "cell"] "_law_pot_of" (defScope st__law_pot_of) f cdv A outer s H E) (defBody st__law_pot_of) (tSt B (wishOf E) (fn__law_pot_of)) := fun f cdv A outer s H E hr => by
  have S := sc__law_pot_of
  have hu := room_u hr
  have tk : L2N.Takes (cxOf (L2N.CX P w) P w B.K mg base ["script", "k", "cell"] "_law_pot_of" (defScope st__law_pot_of) f cdv A outer s H E) (wishOf E) := L2N.takes_of rfl rfl rfl rfl
  have hp : PassesOwn (model P w) (A.deeper (envOfC "_law_pot_of" (defScope st__law_pot_of) s.heap.objs.size f cdv)) (envOfC "_law_pot_of" (defScope st__law_pot_of) s.heap.objs.size f cdv) (cxOf (L2N.CX P w) P w B.K mg base ["script", "k", "cell"] "_law_pot_of" (defScope st__law_pot_of) f cdv A outer s H E).xe := passes_of rfl
  exact (q_cons (gq_asg (g_bin rfl (g_bin rfl r_int (g_var 1)) r_int) (gg_name 2 S.nd)) (q_cons (q_if (gt_cmp rfl hu (g_var 1) (g_callB (c_len rfl) T.z_len (g_cons (g_var 0) r_nil))) (q_cons (gq_asg (g_bin rfl (g_callB c_abs T.z_abs (g_cons (g_callTy c_int T.z_int (g_cons (g_ix rfl (g_var 0) (g_var 1)) r_nil)) r_nil)) (g_bin rfl (g_bin rfl (g_bin rfl (g_bin rfl r_int r_int) (g_bin rfl r_int r_int)) (g_bin rfl r_int r_int)) (g_bin rfl r_int r_int))) (gg_name 2 S.nd)) q_nil) (q_cons (q_if (gt_cmp rfl hu (g_callB (c_len rfl) T.z_len (g_cons (g_var 0) r_nil)) r_int) (q_cons (gq_asg (g_bin rfl (g_var 2) (g_bin rfl (g_callB c_abs T.z_abs (g_cons (g_callTy c_int T.z_int (g_cons (g_ix rfl (g_var 0) r_int) r_nil)) r_nil)) r_int)) (gg_name 2 S.nd)) q_nil) q_nil) q_nil)) (q_cons (q_retO (r_lst (g_cons (r_ite (gt_cmp rfl hu (g_var 2) (g_bin rfl r_int r_int)) (g_var 2) r_int) (g_cons (g_bin rfl (g_bin rfl (g_callTy c_int T.z_int (g_cons (g_bin rfl (g_bin rfl (g_bin rfl (g_bin rfl (g_var 2) r_int) r_int) (g_bin rfl r_int (g_var 1))) r_int) r_nil)) r_int) r_int) r_nil)))) q_nil)))
theorem ok__law_pot_of {k : Nat} (T : Txt B P w mg base Tb L cm)   : FnGood B P w mg base (k + 1) "_law_pot_of" 2 (mD (runD 2 3 (fn__law_pot_of))) :=
  good_D1 T.d__law_pot_of sc__law_pot_of (body__law_pot_of T)
abbrev st__law_dip : Stmt := top 18
theorem sc__law_dip : FnScope ["pot", "many", "found", "wide"] ["pot", "many"] (defScope st__law_dip) := ⟨rfl, rfl, rfl, by decide +kernel, rfl, by decide +kernel, by decide +kernel⟩
def fn__law_dip  : Rho → OS := (sSeq (sIf (s2 (bCmp .Gt) (sIxv 0 (sCon (.int 0))) (sCon (.int 0))) (sSeq (sAsg (.nm 2) (s2 (dBin .Mod) (sCall dInt (sCons (sIxv 0 (sCon (.int 0))) sNil)) (sVar 1))) (sSeq (sItem 0 (sCon (.int 0)) (s2 (dBin .FloorDiv) (sIxv 0 (sCon (.int 0))) (sVar 1))) (sSeq (sRet (sVar 2)) sSkip))) sSkip) (sSeq (sAsg (.tp [2, 3]) (sTup (sCons (sCon (.int 0)) (sCons (sCon (.int 1)) sNil)))) (sSeq (sWhile (fun _ => 40) (sOr (s2 (bCmp .Lt) (sVar 3) (sVar 1)) (s2 (bCmp .Eq) (sVar 3) (sCon (.int 1)))) (sSeq (sItem 0 (sCon (.int 1)) (s2 (dBin .Mod) (sCall dInt (sCons (s2 (dBin .Add) (s2 (dBin .Mult) (sIxv 0 (sCon (.int 1))) (sCon (.int 14741))) (sCon (.int 137))) sNil)) (sCon (.int 2147480197)))) (sSeq (sAsg (.nm 2) (s2 (dBin .Add) (s2 (dBin .Mult) (sVar 2) (sCon (.int 8192))) (s2 (dBin .Mod) (sCall dInt (sCons (s2 (dBin .FloorDiv) (sIxv 0 (sCon (.int 1))) (sCon (.int 76003))) sNil)) (sCon (.int 8192))))) (sSeq (sAsg (.nm 3) (s2 (dBin .Mult) (sVar 3) (sCon (.int 8192)))) sSkip)))) (sSeq (sRet (s2 (dBin .Mod) (sCall dInt (sCons (sVar 2) sNil)) (sVar 1))) sSkip))))
theorem body__law_dip {k : Nat} (T : Txt B P w mg base Tb L cm)   : ∀ (f : Addr) (cdv : Value) (A : Around) (outer : List Env) (s : Shared) (H : Hp) (E : XK), Room k (A.deeper (envOfC "_law_dip" (defScope st__law_dip) s.heap.objs.size f cdv)) → PSs (cxOf (L2N.CX P w) P w B.K mg base ["pot", "many", "found", "wide"] "_law_dip" (defScope st__law_dip) f cdv A outer s H E) (defBody st__law_dip) (tSt B (wishOf E) (fn__law_dip)) := fun f cdv A outer s H E hr => by
  have S := sc__law_dip
  have hu := room_u hr
  have tk : L2N.Takes (cxOf (L2N.CX P w) P w B.K mg base ["pot", "many", "found", "wide"] "_law_dip" (defScope st__law_dip) f cdv A outer s H E) (wishOf E) := L2N.takes_of rfl rfl rfl rfl
  have hp : PassesOwn (model P w) (A.deeper (envOfC "_law_dip" (defScope st__law_dip) s.heap.objs.size f cdv)) (envOfC "_law_dip" (defScope st__law_dip) s.heap.objs.size f cdv) (cxOf (L2N.CX P w) P w B.K mg base ["pot", "many", "found", "wide"] "_law_dip" (defScope st__law_dip) f cdv A outer s H E).xe := passes_of rfl
  exact (q_cons (q_if (gt_cmp rfl hu (g_ixv 0 rfl r_int) r_int) (q_cons (gq_asg (g_bin rfl (g_callTy c_int T.z_int (g_cons (g_ixv 0 rfl r_int) r_nil)) (g_var 1)) (gg_name 2 S.nd)) (q_cons (gq_item 0 r_int (g_bin rfl (g_ixv 0 rfl r_int) (g_var 1))) (q_cons (q_ret (g_var 2)) q_nil))) q_nil) (q_cons (gq_asg (r_tup (g_cons r_int (g_cons r_int r_nil))) (gg_tup rfl rfl (ggs_cons 2 S.nd (ggs_cons 3 S.nd rgs_nil)))) (q_cons (q_while hp (L2.PW.pt (rt_or (gt_cmp rfl hu (g_var 3) (g_var 1)) (pw_or1 (gt_cmp rfl hu (g_var 3) r_int)))) (q_cons (gq_item 0 r_int (g_bin rfl (g_callTy c_int T.z_int (g_cons (g_bin rfl (g_bin rfl (g_ixv 0 rfl r_int) r_int) r_int) r_nil)) r_int)) (q_cons (gq_asg (g_bin rfl (g_bin rfl (g_var 2) r_int) (g_bin rfl (g_callTy c_int T.z_int (g_cons (g_bin rfl (g_ixv 0 rfl r_int) r_int) r_nil)) r_int)) (gg_name 2 S.nd)) (q_cons (gq_asg (g_bin rfl (g_var 3) r_int) (gg_name 3 S.nd)) q_nil)))) (q_cons (q_ret (g_bin rfl (g_callTy c_int T.z_int (g_cons (g_var 2) r_nil)) (g_var 1))) q_nil))))
theorem ok__law_dip {k : Nat} (T : Txt B P w mg base Tb L cm)   : FnGood B P w mg base (k + 1) "_law_dip" 2 (mR (runR 2 4 (fn__law_dip))) :=
  good_R1 T.d__law_dip sc__law_dip (body__law_dip T)
abbrev st__law_made : Stmt := top 19
theorem sc__law_made : FnScope ["found"] [] (defScope st__law_made) := ⟨rfl, rfl, rfl, by decide +kernel, rfl, by decide +kernel, by decide +kernel⟩
def fn__law_made  : Rho → OS := (sSeq (sAsgV 0 1 (sLstV (sCons (sCon (.tuple [.str "InvalidWeb", .str "one"])) (sCons (sCon (.tuple [.str "InvalidLot", .str "one"])) (sCons (sCon (.tuple [.str "InvalidPlace", .str "one"])) (sCons (sCon (.tuple [.str "InvalidKind", .str "one"])) (sCons (sCon (.tuple [.str "InvalidBound", .str "one"])) sNil))))))) (sSeq (sAsgV 0 1 (sCatV (sVvar 1 0) (sLstV (sCons (sCon (.tuple [.str "InvalidNumber", .str "one"])) (sCons (sCon (.tuple [.str "InvalidTies", .str "one"])) (sCons (sCon (.tuple [.str "InvalidSteps", .str "one"])) (sCons (sCon (.tuple [.str "InvalidFacts", .str "one"])) sNil))))))) (sSeq (sRetV 1 (sCatV (sVvar 1 0) (sLstV (sCons (sCon (.tuple [.str "InvalidSwitch", .str "one"])) (sCons (sCon (.tuple [.str "InvalidText", .str "one"])) (sCons (sCon (.tuple [.str "Unlike", .str "one"])) (sCons (sCon (.tuple [.str "NothingToUndo", .str "one"])) sNil))))))) sSkip)))
theorem body__law_made {k : Nat} (T : Txt B P w mg base Tb L cm)   : ∀ (f : Addr) (cdv : Value) (A : Around) (outer : List Env) (s : Shared) (H : Hp) (E : XK), Room k (A.deeper (envOfC "_law_made" (defScope st__law_made) s.heap.objs.size f cdv)) → PSs (cxOf (L2N.CX P w) P w B.K mg base ["found"] "_law_made" (defScope st__law_made) f cdv A outer s H E) (defBody st__law_made) (tSt B (wishOf E) (fn__law_made)) := fun f cdv A outer s H E hr => by
  have S := sc__law_made
  have hu := room_u hr
  have tk : L2N.Takes (cxOf (L2N.CX P w) P w B.K mg base ["found"] "_law_made" (defScope st__law_made) f cdv A outer s H E) (wishOf E) := L2N.takes_of rfl rfl rfl rfl
  have hp : PassesOwn (model P w) (A.deeper (envOfC "_law_made" (defScope st__law_made) s.heap.objs.size f cdv)) (envOfC "_law_made" (defScope st__law_made) s.heap.objs.size f cdv) (cxOf (L2N.CX P w) P w B.K mg base ["found"] "_law_made" (defScope st__law_made) f cdv A outer s H E).xe := passes_of rfl
  exact (q_cons (q_asgV 0 S.nd (g_lstV T.rv (gv_cons (gx_new rfl T.rv T.va (T.nmv "InvalidWeb" (by simp [erNames, errNames]))) (gv_cons (gx_new rfl T.rv T.va (T.nmv "InvalidLot" (by simp [erNames, errNames]))) (gv_cons (gx_new rfl T.rv T.va (T.nmv "InvalidPlace" (by simp [erNames, errNames]))) (gv_cons (gx_new rfl T.rv T.va (T.nmv "InvalidKind" (by simp [erNames, errNames]))) (gv_cons (gx_new rfl T.rv T.va (T.nmv "InvalidBound" (by simp [erNames, errNames]))) gv_nil))))))) (q_cons (q_asgV 0 S.nd (g_catV rfl T.rv (gv_var 0) (g_lstV T.rv (gv_cons (gx_new rfl T.rv T.va (T.nmv "InvalidNumber" (by simp [erNames, errNames]))) (gv_cons (gx_new rfl T.rv T.va (T.nmv "InvalidTies" (by simp [erNames, errNames]))) (gv_cons (gx_new rfl T.rv T.va (T.nmv "InvalidSteps" (by simp [erNames, errNames]))) (gv_cons (gx_new rfl T.rv T.va (T.nmv "InvalidFacts" (by simp [erNames, errNames]))) gv_nil))))))) (q_cons (q_retV (g_catV rfl T.rv (gv_var 0) (g_lstV T.rv (gv_cons (gx_new rfl T.rv T.va (T.nmv "InvalidSwitch" (by simp [erNames, errNames]))) (gv_cons (gx_new rfl T.rv T.va (T.nmv "InvalidText" (by simp [erNames, errNames]))) (gv_cons (gx_new rfl T.rv T.va (T.nmv "Unlike" (by simp [erNames, errNames]))) (gv_cons (gx_new rfl T.rv T.va (T.nmv "NothingToUndo" (by simp [erNames, errNames]))) gv_nil))))))) q_nil)))
theorem ok__law_made {k : Nat} (T : Txt B P w mg base Tb L cm)   : FnGood B P w mg base (k + 1) "_law_made" 0 (mD (runD 0 1 (fn__law_made))) :=
  good_D1 T.d__law_made sc__law_made (body__law_made T)
abbrev st__law_is : Stmt := top 20
theorem sc__law_is : FnScope ["one", "found"] ["one"] (defScope st__law_is) := ⟨rfl, rfl, rfl, by decide +kernel, rfl, by decide +kernel, by decide +kernel⟩
def fn__law_is  : Rho → OS := (sSeq (sAsg (.nm 1) (sFrz (sLst (sCons (sIsV (bfOf "InvalidWeb") (sVvar 0 0)) (sCons (sIsV (bfOf "InvalidLot") (sVvar 0 0)) (sCons (sIsV (bfOf "InvalidPlace") (sVvar 0 0)) sNil)))))) (sSeq (sAsg (.nm 1) (s2 (dBin .Add) (sVar 1) (sFrz (sLst (sCons (sIsV (bfOf "InvalidKind") (sVvar 0 0)) (sCons (sIsV (bfOf "InvalidBound") (sVvar 0 0)) (sCons (sIsV (bfOf "InvalidNumber") (sVvar 0 0)) sNil))))))) (sSeq (sAsg (.nm 1) (s2 (dBin .Add) (sVar 1) (sFrz (sLst (sCons (sIsV (bfOf "InvalidTies") (sVvar 0 0)) (sCons (sIsV (bfOf "InvalidSteps") (sVvar 0 0)) (sCons (sIsV (bfOf "InvalidFacts") (sVvar 0 0)) sNil))))))) (sSeq (sAsg (.nm 1) (s2 (dBin .Add) (sVar 1) (sFrz (sLst (sCons (sIsV (bfOf "InvalidSwitch") (sVvar 0 0)) (sCons (sIsV (bfOf "InvalidText") (sVvar 0 0)) (sCons (sIsV (bfOf "Unlike") (sVvar 0 0)) sNil))))))) (sSeq (sRet (s2 (dBin .Add) (sVar 1) (sFrz (sLst (sCons (sIsV (bfOf "NothingToUndo") (sVvar 0 0)) (sCons (sIsV (bfOf "TooMany") (sVvar 0 0)) sNil)))))) sSkip)))))
theorem body__law_is {k : Nat} (T : Txt B P w mg base Tb L cm)   : ∀ (f : Addr) (cdv : Value) (A : Around) (outer : List Env) (s : Shared) (H : Hp) (E : XK), Room k (A.deeper (envOfC "_law_is" (defScope st__law_is) s.heap.objs.size f cdv)) → PSs (cxOf (L2N.CX P w) P w B.K mg base ["one", "found"] "_law_is" (defScope st__law_is) f cdv A outer s H E) (defBody st__law_is) (tSt B (wishOf E) (fn__law_is)) := fun f cdv A outer s H E hr => by
  have S := sc__law_is
  have hu := room_u hr
  have tk : L2N.Takes (cxOf (L2N.CX P w) P w B.K mg base ["one", "found"] "_law_is" (defScope st__law_is) f cdv A outer s H E) (wishOf E) := L2N.takes_of rfl rfl rfl rfl
  have hp : PassesOwn (model P w) (A.deeper (envOfC "_law_is" (defScope st__law_is) s.heap.objs.size f cdv)) (envOfC "_law_is" (defScope st__law_is) s.heap.objs.size f cdv) (cxOf (L2N.CX P w) P w B.K mg base ["one", "found"] "_law_is" (defScope st__law_is) f cdv A outer s H E).xe := passes_of rfl
  exact (q_cons (gq_asg (g_frz (r_lst (g_cons (gx_is rfl T.rv T.va (Or.inl (T.nmv "InvalidWeb" (by simp [erNames, errNames]))) T.z_isinstance (gv_var 0)) (g_cons (gx_is rfl T.rv T.va (Or.inl (T.nmv "InvalidLot" (by simp [erNames, errNames]))) T.z_isinstance (gv_var 0)) (g_cons (gx_is rfl T.rv T.va (Or.inl (T.nmv "InvalidPlace" (by simp [erNames, errNames]))) T.z_isinstance (gv_var 0)) r_nil))))) (gg_name 1 S.nd)) (q_cons (gq_asg (g_bin rfl (g_var 1) (g_frz (r_lst (g_cons (gx_is rfl T.rv T.va (Or.inl (T.nmv "InvalidKind" (by simp [erNames, errNames]))) T.z_isinstance (gv_var 0)) (g_cons (gx_is rfl T.rv T.va (Or.inl (T.nmv "InvalidBound" (by simp [erNames, errNames]))) T.z_isinstance (gv_var 0)) (g_cons (gx_is rfl T.rv T.va (Or.inl (T.nmv "InvalidNumber" (by simp [erNames, errNames]))) T.z_isinstance (gv_var 0)) r_nil)))))) (gg_name 1 S.nd)) (q_cons (gq_asg (g_bin rfl (g_var 1) (g_frz (r_lst (g_cons (gx_is rfl T.rv T.va (Or.inl (T.nmv "InvalidTies" (by simp [erNames, errNames]))) T.z_isinstance (gv_var 0)) (g_cons (gx_is rfl T.rv T.va (Or.inl (T.nmv "InvalidSteps" (by simp [erNames, errNames]))) T.z_isinstance (gv_var 0)) (g_cons (gx_is rfl T.rv T.va (Or.inl (T.nmv "InvalidFacts" (by simp [erNames, errNames]))) T.z_isinstance (gv_var 0)) r_nil)))))) (gg_name 1 S.nd)) (q_cons (gq_asg (g_bin rfl (g_var 1) (g_frz (r_lst (g_cons (gx_is rfl T.rv T.va (Or.inl (T.nmv "InvalidSwitch" (by simp [erNames, errNames]))) T.z_isinstance (gv_var 0)) (g_cons (gx_is rfl T.rv T.va (Or.inl (T.nmv "InvalidText" (by simp [erNames, errNames]))) T.z_isinstance (gv_var 0)) (g_cons (gx_is rfl T.rv T.va (Or.inl (T.nmv "Unlike" (by simp [erNames, errNames]))) T.z_isinstance (gv_var 0)) r_nil)))))) (gg_name 1 S.nd)) (q_cons (q_ret (g_bin rfl (g_var 1) (g_frz (r_lst (g_cons (gx_is rfl T.rv T.va (Or.inl (T.nmv "NothingToUndo" (by simp [erNames, errNames]))) T.z_isinstance (gv_var 0)) (g_cons (gx_is rfl T.rv T.va (Or.inr rfl) T.z_isinstance (gv_var 0)) r_nil)))))) q_nil)))))
theorem ok__law_is {k : Nat} (T : Txt B P w mg base Tb L cm)   : FnGood B P w mg base (k + 1) "_law_is" 1 (mV (runV 2 (fn__law_is))) :=
  good_V1 T.d__law_is sc__law_is rfl (body__law_is T)
abbrev st_law : Stmt := top 21
theorem sc_law : FnScope ["script", "k", "limit", "every", "at", "one", "place"] ["script"] (defScope st_law) := ⟨rfl, rfl, rfl, by decide +kernel, rfl, by decide +kernel, by decide +kernel⟩
def fn_law (c__law_pot_of : List D → FD) (c__law_dip : List D → List D → FL) (c__law_made : List D → FD) (c__law_is : Nat → D → FD) : Rho → OS := (sSeq (sFor (.nm 1) (sRng (sCons (s2 (dBin .Add) (sCon (.int 1)) (sCall dMin (sCons (sCall dLen (sCons (sVar 0) sNil)) (sCons (sCon (.int 4)) sNil)))) sNil)) (sSeq (sAsg (.nm 2) (sCallT (mR c__law_dip) (sCallO (mD c__law_pot_of) (sCons (sVar 0) (sCons (sVar 1) sNil))) 99)) (sSeq (sAsgV 3 1 (sCatV (sCall0V (mD c__law_made) 1) (sLstV (sCons (sLimV (sVar 2)) sNil)))) (sSeq (sFor (.nm 4) (sRng (sCons (sLenV (sVvar 1 3)) sNil)) (sSeq (sAsgV 5 0 (s2 dItV (sVvar 1 3) (sVar 4))) (sSeq (sIf (sOr (sNot (sIsV (bfOf "SpreadError") (sVvar 0 5))) (sNot (sIsV (fun _ => true) (sVvar 0 5)))) (sSeq (sRet (sCon (.bool false))) sSkip) sSkip) (sSeq (sIf (sOr (s2 (bCmp .NotEq) (sCallV (mV c__law_is) 0 (sVvar 0 5)) (sFrz (sLc (.nm 6) [6] (sRng (sCons (sCon (.int 14)) sNil)) sYes (s2 (bCmp .Eq) (sVar 6) (sVar 4))))) (sAnd (s2 (bCmp .Lt) (sVar 4) (sCon (.int 13))) (s2 (bCmp .NotEq) (sStrV (sVvar 0 5)) (sCon (.str "one"))))) (sSeq (sRet (sCon (.bool false))) sSkip) sSkip) sSkip)))) (sSeq (sIf (s2 (bCmp .NotEq) (sLimD (s2 dItV (sVvar 1 3) (sCon (.int 13)))) (sVar 2)) (sSeq (sRet (sCon (.bool false))) sSkip) sSkip) sSkip))))) (sSeq (sRet (s2 (bCmp .Eq) (sCallV (mV c__law_is) 0 (sCon (.tuple [.str "SpreadError", .str "base"]))) (sFrz (sRep (sCons (sCon (.bool false)) sNil) (sCon (.int 14)))))) sSkip))
theorem body_law {k : Nat} (T : Txt B P w mg base Tb L cm) (c__law_pot_of : List D → FD) (c__law_dip : List D → List D → FL) (c__law_made : List D → FD) (c__law_is : Nat → D → FD) {l__law_pot_of : Nat} (h__law_pot_of : FnGood B P w mg base l__law_pot_of "_law_pot_of" 2 (mD c__law_pot_of)) (le__law_pot_of : l__law_pot_of ≤ k) {l__law_dip : Nat} (h__law_dip : FnGood B P w mg base l__law_dip "_law_dip" 2 (mR c__law_dip)) (le__law_dip : l__law_dip ≤ k) {l__law_made : Nat} (h__law_made : FnGood B P w mg base l__law_made "_law_made" 0 (mD c__law_made)) (le__law_made : l__law_made ≤ k) {l__law_is : Nat} (h__law_is : FnGood B P w mg base l__law_is "_law_is" 1 (mV c__law_is)) (le__law_is : l__law_is ≤ k) : ∀ (f : Addr) (cdv : Value) (A : Around) (outer : List Env) (s : Shared) (H : Hp) (E : XK), Room (k + 2) (A.deeper (envOfC "law" (defScope st_law) s.heap.objs.size f cdv)) → PSs (cxOf (L2N.CX P w) P w B.K mg base ["script", "k", "limit", "every", "at", "one", "place"] "law" (defScope st_law) f cdv A outer s H E) (defBody st_law) (tSt B (wishOf E) (fn_law c__law_pot_of c__law_dip c__law_made c__law_is)) := fun f cdv A outer s H E hr => by
  have S := sc_law
  have hu := room_u hr
  have tk : L2N.Takes (cxOf (L2N.CX P w) P w B.K mg base ["script", "k", "limit", "every", "at", "one", "place"] "law" (defScope st_law) f cdv A outer s H E) (wishOf E) := L2N.takes_of rfl rfl rfl rfl
  have hp : PassesOwn (model P w) (A.deeper (envOfC "law" (defScope st_law) s.heap.objs.size f cdv)) (envOfC "law" (defScope st_law) s.heap.objs.size f cdv) (cxOf (L2N.CX P w) P w B.K mg base ["script", "k", "limit", "every", "at", "one", "place"] "law" (defScope st_law) f cdv A outer s H E).xe := passes_of rfl
  exact (q_cons (gq_for hp rfl (gi_rng1 T.z_range (g_bin rfl r_int (g_callB (c_min rfl) T.z_min (g_cons (g_callB (c_len rfl) T.z_len (g_cons (g_var 0) r_nil)) (g_cons r_int r_nil))))) (gg_name 1 S.nd) (q_cons (gq_asg (g_callT rfl h__law_dip (hr.mono (Nat.le_trans le__law_dip (by omega))) tk (g_callO rfl h__law_pot_of (hr.mono (Nat.le_trans le__law_pot_of (by omega))) tk (g_cons (g_var 0) (g_cons (g_var 1) r_nil)))) (gg_name 2 S.nd)) (q_cons (q_asgV 3 S.nd (g_catV rfl T.rv (g_call0V rfl h__law_made (hr.mono (Nat.le_trans le__law_made (by omega)))) (g_lstV T.rv (gv_cons (g_exM rfl T.rv T.lim T.va.tm (hr.mono (by omega)) (g_var 2)) gv_nil)))) (q_cons (gq_for hp rfl (gi_rng1 T.z_range (g_lenV rfl T.rv T.z_len (gv_var 3))) (gg_name 4 S.nd) (q_cons (q_asgV 5 S.nd (g_itV rfl T.rv (gv_var 3) (g_var 4))) (q_cons (q_if (L2.PW.pt (rt_or (rt_not (gt_val (gx_is rfl T.rv T.va (Or.inl (T.nmv "SpreadError" (by simp [erNames, errNames]))) T.z_isinstance (gv_var 5)))) (pw_or1 (rt_not (gt_val (gx_isv rfl T.rv T.va T.z_isinstance T.z_ValueError (gv_var 5))))))) (q_cons (q_ret r_bl) q_nil) q_nil) (q_cons (q_if (L2.PW.pt (rt_or (gt_cmp rfl hu (g_callV rfl h__law_is (hr.mono (Nat.le_trans le__law_is (by omega))) tk (gv_var 5)) (g_frz (g_lc [("place", 6)] rfl S.nd (gi_rng1 T.z_range r_int) (fun _ _ _ _ _ => (gg_name 6 S.nd)) (fun _ _ _ _ _ => rp_nil) (fun _ _ _ _ _ => (g_cmp rfl hu (g_var 6) (g_var 4)))))) (pw_or1 (L2.PW.pt (rt_and (gt_cmp rfl hu (g_var 4) r_int) (pw_and1 (gt_cmp rfl hu (g_strV rfl T.rv T.va.at.2.1 (Nat.lt_of_le_of_lt (Nat.add_le_add_left (show 2 ≤ 65 by decide) _) hu) T.z_str (gv_var 5)) r_str))))))) (q_cons (q_ret r_bl) q_nil) q_nil) q_nil)))) (q_cons (q_if (gt_cmp rfl hu (g_limD rfl T.rv T.va.at.2.1 (g_itV rfl T.rv (gv_var 3) r_int)) (g_var 2)) (q_cons (q_ret r_bl) q_nil) q_nil) q_nil))))) (q_cons (q_ret (g_cmp rfl hu (g_callV rfl h__law_is (hr.mono (Nat.le_trans le__law_is (by omega))) tk (gx_new rfl T.rv T.va (T.nmv "SpreadError" (by simp [erNames, errNames])))) (g_frz (r_rep (g_cons r_bl r_nil) r_int)))) q_nil))
theorem ok_law {k : Nat} (T : Txt B P w mg base Tb L cm) (c__law_pot_of : List D → FD) (c__law_dip : List D → List D → FL) (c__law_made : List D → FD) (c__law_is : Nat → D → FD) {l__law_pot_of : Nat} (h__law_pot_of : FnGood B P w mg base l__law_pot_of "_law_pot_of" 2 (mD c__law_pot_of)) (le__law_pot_of : l__law_pot_of ≤ k) {l__law_dip : Nat} (h__law_dip : FnGood B P w mg base l__law_dip "_law_dip" 2 (mR c__law_dip)) (le__law_dip : l__law_dip ≤ k) {l__law_made : Nat} (h__law_made : FnGood B P w mg base l__law_made "_law_made" 0 (mD c__law_made)) (le__law_made : l__law_made ≤ k) {l__law_is : Nat} (h__law_is : FnGood B P w mg base l__law_is "_law_is" 1 (mV c__law_is)) (le__law_is : l__law_is ≤ k) : FnGood B P w mg base ((k + 2) + 1) "law" 1 (mD (runD 1 7 (fn_law c__law_pot_of c__law_dip c__law_made c__law_is))) :=
  good_D1 T.d_law sc_law (body_law T c__law_pot_of c__law_dip c__law_made c__law_is h__law_pot_of le__law_pot_of h__law_dip le__law_dip h__law_made le__law_made h__law_is le__law_is)
end
end K17

set_option maxRecDepth 100000
namespace K17
open PySem PySem.Spec PyProof.Rows L2 Rf
def r_pot_of := runD 2 3 (fn__law_pot_of)
def r_dip := runR 2 4 (fn__law_dip)
def r_made := runD 0 1 (fn__law_made)
def r_is := runV 2 (fn__law_is)
def r_law := runD 1 7 (fn_law r_pot_of r_dip r_made r_is)
end K17

set_option maxRecDepth 100000
set_option maxHeartbeats 4000000
namespace K17
open PySem PySem.Spec PyProof.Rows L2 Rf
theorem sh_i (i : Int) : shaped (.int i) = true := sh_of (sh_int (k := 0) i)
theorem ne_ii (i j : Int) : dCmp .NotEq (.int i) (.int j) = some (!(i == j)) := by
  show (if shaped (.int i) && shaped (.int j) then some (!PyData.eqv (.int i) (.int j)) else none) = _
  rw [sh_i, sh_i]; rfl
theorem eq_ii (i j : Int) : dCmp .Eq (.int i) (.int j) = some (i == j) := by
  show (if shaped (.int i) && shaped (.int j) then some (PyData.eqv (.int i) (.int j)) else none) = _
  rw [sh_i, sh_i]; rfl
theorem gt_ii (i j : Int) : dCmp .Gt (.int i) (.int j) = some (decide (j < i)) := rfl
end K17
namespace K17
open PySem PySem.Spec PyProof.Rows L2 Rf
theorem log2_lt' {n k : Nat} (h : n < 2 ^ k) (hk : 0 < k) : n.log2 < k := by
  by_cases h0 : n = 0
  · subst h0; simpa using hk
  · exact (Nat.log2_lt h0).mpr h
theorem mulOk {i j : Int} (hi : i.natAbs < 2 ^ 1000) (hj : j.natAbs < 2 ^ 1000) : Rf.MulOk i j := by
  have h1 := log2_lt' hi (by decide)
  have h2 := log2_lt' hj (by decide)
  unfold Rf.MulOk
  omega
theorem b_mul {i j : Int} (h : Rf.MulOk i j) : dBin .Mult (.int i) (.int j) = some (.int (i * j)) := if_pos h
theorem b_mod {i j : Int} (h : j ≠ 0) : dBin .Mod (.int i) (.int j) = some (.int (i.fmod j)) := if_pos h
theorem b_div {i j : Int} (h : j ≠ 0 ∧ j.natAbs.log2 < 9000) : dBin .FloorDiv (.int i) (.int j) = some (.int (i.fdiv j)) := if_pos h
theorem b_pow {i j : Int} (h : 0 ≤ j ∧ j ≤ 1000000 ∧ i.natAbs < 2 ^ 64) : dBin .Pow (.int i) (.int j) = some (.int (i ^ j.toNat)) := if_pos h
theorem b_add (i j : Int) : dBin .Add (.int i) (.int j) = some (.int (i + j)) := rfl
theorem b_sub (i j : Int) : dBin .Sub (.int i) (.int j) = some (.int (i - j)) := rfl
theorem fmod_in {i j : Int} (h : 0 < j) : 0 ≤ i.fmod j ∧ i.fmod j < j := ⟨Int.fmod_nonneg_of_pos i h, Int.fmod_lt_of_pos i h⟩
abbrev MM : Int := 2147480197
def PotOk (l : List D) : Prop := ∃ a b : Int, l = [.int a, .int b] ∧ 0 ≤ b ∧ b ≤ MM
theorem lt_ii (i j : Int) : dCmp .Lt (.int i) (.int j) = some (decide (i < j)) := rfl
theorem ge_ii (i j : Int) : dCmp .GtE (.int i) (.int j) = some (decide (j ≤ i)) := rfl
theorem small_mul {i j : Int} (h1 : 0 ≤ i) (h2 : i ≤ 100000000000000) (h3 : 0 ≤ j) (h4 : j ≤ 100000000000000) : Rf.MulOk i j := by
  have h5 : (100000000000000 : Nat) < 2 ^ 1000 := by decide +kernel
  exact mulOk (Nat.lt_of_le_of_lt (by omega) h5) (Nat.lt_of_le_of_lt (by omega) h5)
theorem v_dip {l : List D} {many : Int} (h : PotOk l) (h1 : 1 ≤ many) (h2 : many ≤ 8192) : ∃ (r : Int) (l' : List D), r_dip l [.int many] = .ret (.int r) l' ∧ 0 ≤ r ∧ r < many ∧ PotOk l' := by
  obtain ⟨a, b, rfl, hb0, hb1⟩ := h
  have hm0 : many ≠ 0 := by omega
  have hmd : many ≠ 0 ∧ many.natAbs.log2 < 9000 := ⟨hm0, by
    have := log2_lt' (n := many.natAbs) (k := 20) (by omega) (by decide)
    omega⟩
  have e0 : atI [PyData.int a, .int b] 0 = some (.int a) := rfl
  have e1 : atI [PyData.int a, .int b] 1 = some (.int b) := rfl
  have i0 : ixN 2 0 = some 0 := rfl
  have i1 : ixN 2 1 = some 1 := rfl
  by_cases ha : 0 < a
  · refine ⟨a.fmod many, [.int (a.fdiv many), .int b], ?_, (fmod_in (by omega)).1, (fmod_in (by omega)).2, a.fdiv many, b, rfl, hb0, hb1⟩
    have d0 : decide (0 < a) = true := decide_eq_true ha
    unfold r_dip fn__law_dip
    simp only [sSeq, OS.bind, O.run, O.bind, sRet, sSkip, sIf, sAsg, Rf.bindT, Rf.bindN, sVar, sCon, sNil, sCons, s2, lift, bCmp, dIx, sIxv, sCall, dInt, heldAt, setL, sItem, runR, start0, argsR, refAt0, refC, Option.map, List.map_cons, List.map_nil, List.length_cons, List.length_nil, List.replicate, List.cons_append, List.nil_append, List.getElem?_cons_zero, List.getElem?_cons_succ, List.set_cons_zero, List.set_cons_succ, Nat.reduceAdd, Nat.reduceSub, reduceIte, e0, e1, i0, i1, gt_ii, d0, b_mod hm0, b_div hmd]
  · have d0 : decide (0 < a) = false := decide_eq_false ha
    generalize hb' : (b * 14741 + 137).fmod MM = b'
    have hb2 := fmod_in (i := b * 14741 + 137) (j := MM) (by decide)
    rw [hb'] at hb2
    have m1 : Rf.MulOk b 14741 := small_mul hb0 (by have : MM = 2147480197 := rfl; omega) (by omega) (by omega)
    have m2 : Rf.MulOk 0 8192 := by decide +kernel
    have m3 : Rf.MulOk 1 8192 := by decide +kernel
    have hd : (76003 : Int) ≠ 0 ∧ (76003 : Int).natAbs.log2 < 9000 := ⟨by decide, by decide +kernel⟩
    refine ⟨((0 * 8192 + (b'.fdiv 76003).fmod 8192)).fmod many, [.int a, .int b'], ?_, (fmod_in (by omega)).1, (fmod_in (by omega)).2, a, b', rfl, hb2.1, by omega⟩
    have e0' : ∀ c : D, atI [PyData.int a, c] 0 = some (.int a) := fun c => rfl
    have e1' : atI [PyData.int a, .int b'] 1 = some (.int b') := rfl
    have w1 : decide ((1 * 8192 : Int) < many) = false := decide_eq_false (by omega)
    have w2 : ((1 * 8192 : Int) == 1) = false := by decide
    have w3 : ((1 : Int) == 1) = true := rfl
    have w4 : decide ((1 : Int) < many) = true ∨ decide ((1 : Int) < many) = false := by cases decide ((1 : Int) < many) <;> simp
    have nz : (8192 : Int) ≠ 0 := by decide
    have nM : (2147480197 : Int) ≠ 0 := by decide
    unfold r_dip fn__law_dip sWhile
    rcases w4 with w4 | w4
    · simp only [sSeq, OS.bind, O.run, O.bind, sRet, sSkip, sIf, sAsg, Rf.bindT, Rf.bindL, Rf.bindN, sTup, sOr, whileGo, sVar, sCon, sNil, sCons, s2, lift, bCmp, dIx, sIxv, sCall, dInt, heldAt, setL, sItem, runR, start0, argsR, refAt0, refC, Option.map, Option.bind, List.map_cons, List.map_nil, List.length_cons, List.length_nil, List.replicate, List.cons_append, List.nil_append, List.getElem?_cons_zero, List.getElem?_cons_succ, List.set_cons_zero, List.set_cons_succ, Nat.reduceAdd, Nat.reduceSub, Nat.reduceLeDiff, reduceIte, e0, e1, e1', i0, i1, gt_ii, lt_ii, eq_ii, d0, w4, b_mul m1, b_mul m2, b_mul m3, b_add, b_mod nM, b_mod nz, b_mod hm0, b_div hd, hb', w1, w2]
    · simp only [sSeq, OS.bind, O.run, O.bind, sRet, sSkip, sIf, sAsg, Rf.bindT, Rf.bindL, Rf.bindN, sTup, sOr, whileGo, sVar, sCon, sNil, sCons, s2, lift, bCmp, dIx, sIxv, sCall, dInt, heldAt, setL, sItem, runR, start0, argsR, refAt0, refC, Option.map, Option.bind, List.map_cons, List.map_nil, List.length_cons, List.length_nil, List.replicate, List.cons_append, List.nil_append, List.getElem?_cons_zero, List.getElem?_cons_succ, List.set_cons_zero, List.set_cons_succ, Nat.reduceAdd, Nat.reduceSub, Nat.reduceLeDiff, reduceIte, e0, e1, e1', i0, i1, gt_ii, lt_ii, eq_ii, d0, w4, w3, b_mul m1, b_mul m2, b_mul m3, b_add, b_mod nM, b_mod nz, b_mod hm0, b_div hd, hb', w1, w2]
end K17
namespace K17
open PySem PySem.Spec PyProof.Rows L2 Rf
theorem callR_eq {f : List D → List D → FL} {i : Nat} {fa : Rho → O (List D)} {ρ ρ1 : Rho} {ds : List D} {l0 l l' : List D} {d : D} (h0 : heldAt ρ i = some l0) (h1 : fa ρ = .ok ds ρ1) (h2 : heldAt ρ1 i = some l) (h3 : f l ds = .ret d l') : sCallR (mR f) i fa ρ = .ok d (setL ρ1 i l') := by
  rw [sCallR_mR, h0]
  dsimp only
  rw [h1]
  show (match heldAt ρ1 i with | none => O.no | some l => match f l ds with | .ret d l' => .ok d (setL ρ1 i l') | .exc e l' => .ex e (setL ρ1 i l') | .no => .no) = _
  rw [h2]
  dsimp only
  rw [h3]
def potA : Rho → OS := (sAsg (.nm 2) (s2 (dBin .Add) (s2 (dBin .Mult) (sCon (.int 21013)) (sVar 1)) (sCon (.int 37))))
def potI : Rho → OS := (sIf (s2 (bCmp .Lt) (sVar 1) (sCall dLen (sCons (sVar 0) sNil))) (sSeq (sAsg (.nm 2) (s2 (dBin .Mod) (sCall dAbs (sCons (sCall dInt (sCons (s2 dIx (sVar 0) (sVar 1)) sNil)) sNil)) (s2 (dBin .Mult) (s2 (dBin .Mult) (s2 (dBin .Mult) (s2 (dBin .Pow) (sCon (.int 10)) (sCon (.int 60))) (s2 (dBin .Pow) (sCon (.int 10)) (sCon (.int 60)))) (s2 (dBin .Pow) (sCon (.int 10)) (sCon (.int 60)))) (s2 (dBin .Pow) (sCon (.int 10)) (sCon (.int 60)))))) sSkip) (sSeq (sIf (s2 (bCmp .Gt) (sCall dLen (sCons (sVar 0) sNil)) (sCon (.int 0))) (sSeq (sAsg (.nm 2) (s2 (dBin .Add) (sVar 2) (s2 (dBin .Mod) (sCall dAbs (sCons (sCall dInt (sCons (s2 dIx (sVar 0) (sCon (.int 0))) sNil)) sNil)) (sCon (.int 1000171))))) sSkip) sSkip) sSkip))
def potT : Rho → OS := (sSeq (sRetO (sLst (sCons (sIte (s2 (bCmp .GtE) (sVar 2) (s2 (dBin .Pow) (sCon (.int 10)) (sCon (.int 18)))) (sVar 2) (sCon (.int 0))) (sCons (s2 (dBin .Add) (s2 (dBin .Mod) (sCall dInt (sCons (s2 (dBin .Add) (s2 (dBin .Add) (s2 (dBin .Mult) (s2 (dBin .Mod) (sVar 2) (sCon (.int 2147480197))) (sCon (.int 47))) (s2 (dBin .Mult) (sCon (.int 113)) (sVar 1))) (sCon (.int 79))) sNil)) (sCon (.int 2147480197))) (sCon (.int 1))) sNil)))) sSkip)
theorem v_pot_of {ns : List Int} {k : Int} (hl : ns.length ≤ 63) (h0 : 0 ≤ k) (h1 : k ≤ 63) : ∃ l : List D, r_pot_of [.list (ns.map .int), .int k] = .retO l ∧ PotOk l := by
  have p18 : dBin .Pow (.int 10) (.int 18) = some (.int (10 ^ (18 : Int).toNat)) := b_pow ⟨by decide, by decide, by decide⟩
  have p60 : dBin .Pow (.int 10) (.int 60) = some (.int (10 ^ (60 : Int).toNat)) := b_pow ⟨by decide, by decide, by decide⟩
  have hM : (2147480197 : Int) ≠ 0 := by decide
  -- the end
  have fin : ∀ c : Int, ∃ l : List D, potT [some (.dat (.list (ns.map .int))), some (.dat (.int k)), some (.dat (.int c))] = .retO l [some (.dat (.list (ns.map .int))), some (.dat (.int k)), some (.dat (.int c))] ∧ PotOk l := fun c => by
    have hc := fmod_in (i := c) (j := 2147480197) (by decide)
    have m1 : Rf.MulOk (c.fmod 2147480197) 47 := small_mul hc.1 (by omega) (by omega) (by omega)
    have m2 : Rf.MulOk 113 k := small_mul (by omega) (by omega) h0 (by omega)
    generalize hb : (c.fmod 2147480197 * 47 + 113 * k + 79).fmod 2147480197 = b
    have hb2 := fmod_in (i := c.fmod 2147480197 * 47 + 113 * k + 79) (j := 2147480197) (by decide)
    rw [hb] at hb2
    refine ⟨[.int (if (10 : Int) ^ (18 : Int).toNat ≤ c then c else 0), .int (b + 1)], ?_, _, b + 1, rfl, by omega, by show b + 1 ≤ 2147480197; omega⟩
    by_cases hq : (10 : Int) ^ (18 : Int).toNat ≤ c
    · have d1 : decide ((10 : Int) ^ (18 : Int).toNat ≤ c) = true := decide_eq_true hq
      rw [if_pos hq]
      simp only [potT, sSeq, OS.bind, O.run, O.bind, sRetO, sLst, sIte, sVar, sCon, sNil, sCons, s2, lift, bCmp, sCall, dInt, Option.map, List.getElem?_cons_zero, List.getElem?_cons_succ, p18, ge_ii, d1, b_mod hM, b_mul m1, b_mul m2, b_add, hb, List.length_cons, List.length_nil, Nat.reduceAdd, Nat.reduceLeDiff, reduceIte]
    · have d1 : decide ((10 : Int) ^ (18 : Int).toNat ≤ c) = false := decide_eq_false hq
      rw [if_neg hq]
      simp only [potT, sSeq, OS.bind, O.run, O.bind, sRetO, sLst, sIte, sVar, sCon, sNil, sCons, s2, lift, bCmp, sCall, dInt, Option.map, List.getElem?_cons_zero, List.getElem?_cons_succ, p18, ge_ii, d1, b_mod hM, b_mul m1, b_mul m2, b_add, hb, List.length_cons, List.length_nil, Nat.reduceAdd, Nat.reduceLeDiff, reduceIte]
  have m0 : Rf.MulOk 21013 k := small_mul (by omega) (by omega) h0 (by omega)
  have q1 : Rf.MulOk (10 ^ (60 : Int).toNat) (10 ^ (60 : Int).toNat) := by decide +kernel
  have q2 : Rf.MulOk (10 ^ (60 : Int).toNat * 10 ^ (60 : Int).toNat) (10 ^ (60 : Int).toNat) := by decide +kernel
  have q3 : Rf.MulOk (10 ^ (60 : Int).toNat * 10 ^ (60 : Int).toNat * 10 ^ (60 : Int).toNat) (10 ^ (60 : Int).toNat) := by decide +kernel
  have q4 : ((10 : Int) ^ (60 : Int).toNat * 10 ^ (60 : Int).toNat * 10 ^ (60 : Int).toNat * 10 ^ (60 : Int).toNat) ≠ 0 := by decide +kernel
  have q5 : (1000171 : Int) ≠ 0 := by decide
  have eA : potA [some (.dat (.list (ns.map .int))), some (.dat (.int k)), none] = .nx [some (.dat (.list (ns.map .int))), some (.dat (.int k)), some (.dat (.int (21013 * k + 37)))] := by
    unfold potA
    simp only [O.bind, O.run, sAsg, Rf.bindT, Rf.bindN, sVar, sCon, s2, lift, List.getElem?_cons_zero, List.getElem?_cons_succ, List.set_cons_zero, List.set_cons_succ, b_mul m0, b_add]
  have eI : ∃ c : Int, potI [some (.dat (.list (ns.map .int))), some (.dat (.int k)), some (.dat (.int (21013 * k + 37)))] = .nx [some (.dat (.list (ns.map .int))), some (.dat (.int k)), some (.dat (.int c))] := by
    unfold potI
    by_cases hk : k < (ns.length : Int)
    · have d1 : decide (k < (((ns.map PyData.int).length : Nat) : Int)) = true := by rw [List.length_map]; exact decide_eq_true hk
      have hkn : k.toNat < ns.length := by omega
      have ea : atI (ns.map PyData.int) k = some (.int ns[k.toNat]) := by
        have := atI_nat (xs := ns.map PyData.int) (j := k.toNat) (v := .int ns[k.toNat]) (by rw [List.getElem?_map, List.getElem?_eq_getElem hkn]; rfl)
        rw [show ((k.toNat : Nat) : Int) = k by omega] at this
        exact this
      simp only [sSeq, OS.bind, O.run, O.bind, sIf, sAsg, sSkip, Rf.bindT, Rf.bindN, sVar, sCon, sNil, sCons, s2, lift, bCmp, dIx, sCall, dInt, dAbs, dLen, Option.map, List.getElem?_cons_zero, List.getElem?_cons_succ, List.set_cons_zero, List.set_cons_succ, lt_ii, d1, ea, p60, b_mul q1, b_mul q2, b_mul q3, b_mod q4]
      exact ⟨_, rfl⟩
    · have d1 : decide (k < (((ns.map PyData.int).length : Nat) : Int)) = false := by rw [List.length_map]; exact decide_eq_false hk
      by_cases hz : 0 < ns.length
      · have d2 : decide ((0 : Int) < (((ns.map PyData.int).length : Nat) : Int)) = true := by rw [List.length_map]; exact decide_eq_true (by omega)
        have ea : atI (ns.map PyData.int) 0 = some (.int ns[0]) := atI_nat (xs := ns.map PyData.int) (j := 0) (v := .int ns[0]) (by rw [List.getElem?_map, List.getElem?_eq_getElem hz]; rfl)
        simp only [sSeq, OS.bind, O.run, O.bind, sIf, sAsg, sSkip, Rf.bindT, Rf.bindN, sVar, sCon, sNil, sCons, s2, lift, bCmp, dIx, sCall, dInt, dAbs, dLen, Option.map, List.getElem?_cons_zero, List.getElem?_cons_succ, List.set_cons_zero, List.set_cons_succ, lt_ii, gt_ii, d1, d2, ea, b_mod q5, b_add]
        exact ⟨_, rfl⟩
      · have d2 : decide ((0 : Int) < (((ns.map PyData.int).length : Nat) : Int)) = false := by rw [List.length_map]; exact decide_eq_false (by omega)
        simp only [sSeq, OS.bind, O.run, O.bind, sIf, sAsg, sSkip, Rf.bindT, Rf.bindN, sVar, sCon, sNil, sCons, s2, lift, bCmp, dIx, sCall, dInt, dAbs, dLen, Option.map, List.getElem?_cons_zero, List.getElem?_cons_succ, List.set_cons_zero, List.set_cons_succ, lt_ii, gt_ii, d1, d2]
        exact ⟨_, rfl⟩
  obtain ⟨c, eI⟩ := eI
  obtain ⟨l, eT, hp⟩ := fin c
  refine ⟨l, ?_, hp⟩
  show (match OS.bind (potA [some (.dat (.list (ns.map .int))), some (.dat (.int k)), none]) (sSeq potI potT) with | .nx _ => FD.ret .none | .ret d _ => .ret d | .retO l _ => .retO l | .retK l _ => .retK l | .retV k l _ => .retV k l | .ex e _ => .exc e | .no => .no) = _
  rw [eA]
  show (match OS.bind (potI [some (.dat (.list (ns.map .int))), some (.dat (.int k)), some (.dat (.int (21013 * k + 37)))]) potT with | .nx _ => FD.ret .none | .ret d _ => .ret d | .retO l _ => .retO l | .retK l _ => .retK l | .retV k l _ => .retV k l | .ex e _ => .exc e | .no => .no) = _
  rw [eI]
  show (match potT [some (.dat (.list (ns.map .int))), some (.dat (.int k)), some (.dat (.int c))] with | .nx _ => FD.ret .none | .ret d _ => .ret d | .retO l _ => .retO l | .retK l _ => .retK l | .retV k l _ => .retV k l | .ex e _ => .exc e | .no => .no) = _
  rw [eT]
end K17

set_option maxRecDepth 100000
set_option maxHeartbeats 4000000
namespace K17
open PySem PySem.Spec PyProof.Rows L2 Rf
theorem ev_seq {f g : Rho → OS} {ρ ρ1 : Rho} (h : f ρ = .nx ρ1) : sSeq f g ρ = g ρ1 := by
  unfold sSeq
  rw [h]; rfl
theorem ev_s2 {g : D → D → Option D} {fa fb : Rho → O D} {ρ ρ1 ρ2 : Rho} {x y z : D} (h : fa ρ = .ok x ρ1) (k : fb ρ1 = .ok y ρ2) (e : g x y = some z) : s2 g fa fb ρ = .ok z ρ2 := by
  unfold s2
  rw [h]
  show O.bind (fb ρ1) _ = _
  rw [k]
  show lift (g x y) ρ2 = _
  rw [e]; rfl
theorem ev_for {t : Tg} {fi : Rho → O (List D)} {f : Rho → OS} {ρ ρ1 : Rho} {xs : List D} (h : fi ρ = .ok xs ρ1) : sFor t fi f ρ = forGo t f xs ρ1 := by
  unfold sFor
  rw [h]; rfl
def pA : Rho → OS := (sAsg (.nm 2) (sCallT (mR r_dip) (sCallO (mD r_pot_of) (sCons (sVar 0) (sCons (sVar 1) sNil))) 99))
def pB : Rho → OS := (sAsgV 3 1 (sCatV (sCall0V (mD r_made) 1) (sLstV (sCons (sLimV (sVar 2)) sNil))))
def pC : Rho → OS := (sFor (.nm 4) (sRng (sCons (sLenV (sVvar 1 3)) sNil)) (sSeq (sAsgV 5 0 (s2 dItV (sVvar 1 3) (sVar 4))) (sSeq (sIf (sOr (sNot (sIsV (bfOf "SpreadError") (sVvar 0 5))) (sNot (sIsV (fun _ => true) (sVvar 0 5)))) (sSeq (sRet (sCon (.bool false))) sSkip) sSkip) (sSeq (sIf (sOr (s2 (bCmp .NotEq) (sCallV (mV r_is) 0 (sVvar 0 5)) (sFrz (sLc (.nm 6) [6] (sRng (sCons (sCon (.int 14)) sNil)) sYes (s2 (bCmp .Eq) (sVar 6) (sVar 4))))) (sAnd (s2 (bCmp .Lt) (sVar 4) (sCon (.int 13))) (s2 (bCmp .NotEq) (sStrV (sVvar 0 5)) (sCon (.str "one"))))) (sSeq (sRet (sCon (.bool false))) sSkip) sSkip) sSkip))))
def pD : Rho → OS := (sIf (s2 (bCmp .NotEq) (sLimD (s2 dItV (sVvar 1 3) (sCon (.int 13)))) (sVar 2)) (sSeq (sRet (sCon (.bool false))) sSkip) sSkip)
def pE : Rho → OS := (sRet (s2 (bCmp .Eq) (sCallV (mV r_is) 0 (sCon (.tuple [.str "SpreadError", .str "base"]))) (sFrz (sRep (sCons (sCon (.bool false)) sNil) (sCon (.int 14))))))
def pI : Rho → O (List D) := (sRng (sCons (s2 (dBin .Add) (sCon (.int 1)) (sCall dMin (sCons (sCall dLen (sCons (sVar 0) sNil)) (sCons (sCon (.int 4)) sNil)))) sNil))
theorem law_split : fn_law r_pot_of r_dip r_made r_is = sSeq (sFor (.nm 1) pI (sSeq pA (sSeq pB (sSeq pC (sSeq pD sSkip))))) (sSeq pE sSkip) := rfl
def made : List D := [.tuple [.str "InvalidWeb", .str "one"], .tuple [.str "InvalidLot", .str "one"], .tuple [.str "InvalidPlace", .str "one"], .tuple [.str "InvalidKind", .str "one"], .tuple [.str "InvalidBound", .str "one"], .tuple [.str "InvalidNumber", .str "one"], .tuple [.str "InvalidTies", .str "one"], .tuple [.str "InvalidSteps", .str "one"], .tuple [.str "InvalidFacts", .str "one"], .tuple [.str "InvalidSwitch", .str "one"], .tuple [.str "InvalidText", .str "one"], .tuple [.str "Unlike", .str "one"], .tuple [.str "NothingToUndo", .str "one"]]
def mk (r : Int) : D := .list (made ++ [.int r])
theorem v_made : r_made [] = .retV 1 (.list made) := by kernel_rfl
/-- slots: nothing yet | what a turn left -/
inductive Sh : Option C → Option C → Option C → Prop where
  | no : Sh none none none
  | at (e a o : D) : Sh (some (.rel 1 e)) (some (.dat a)) (some (.rel 0 o))
theorem eB {S K : Option C} {r : Int} {c3 c4 c5 : Option C} (h : r.natAbs < 2 ^ 64) (hs : Sh c3 c4 c5) : pB [S, K, some (.dat (.int r)), c3, c4, c5, none] = .nx [S, K, some (.dat (.int r)), some (.rel 1 (mk r)), c4, c5, none] := by
  have e1 : sLimV (sVar 2) [S, K, some (.dat (.int r)), c3, c4, c5, none] = .ok (.int r) [S, K, some (.dat (.int r)), c3, c4, c5, none] := by
    show (if r.natAbs < 2 ^ 64 then O.ok (PyData.int r) [S, K, some (.dat (.int r)), c3, c4, c5, none] else O.no) = _
    rw [if_pos h]
  have e2 : sCall0V (mD r_made) 1 [S, K, some (.dat (.int r)), c3, c4, c5, none] = .ok (.list made) [S, K, some (.dat (.int r)), c3, c4, c5, none] := by
    unfold sCall0V
    show (match (match r_made [] with | .ret d => FR.ret d [] | .retO l => .retO l [] | .retK l => .retK l [] | .retV k l => .retV k l [] | .exc e => .exc e [] | .no => .no) with | .retV k' d _ => if k' = 1 then O.ok d [S, K, some (.dat (.int r)), c3, c4, c5, none] else .no | _ => .no) = _
    rw [v_made]; rfl
  unfold pB sAsgV sCatV s2 sLstV sCons
  simp only [e1, e2, O.bind, O.run, sNil]
  cases hs <;> rfl
theorem eC {S K : Option C} {r : Int} {c4 c5 : Option C} {e : Option C} (hs : Sh e c4 c5) : pC [S, K, some (.dat (.int r)), some (.rel 1 (mk r)), c4, c5, none] = .nx [S, K, some (.dat (.int r)), some (.rel 1 (mk r)), some (.dat (.int 13)), some (.rel 0 (.int r)), none] := by
  cases hs with
  | no => kernel_rfl
  | «at» e a o => kernel_rfl
theorem eD {S K c4 c5 : Option C} {r : Int} : pD [S, K, some (.dat (.int r)), some (.rel 1 (mk r)), c4, c5, none] = .nx [S, K, some (.dat (.int r)), some (.rel 1 (mk r)), c4, c5, none] := by
  have e1 : s2 (bCmp .NotEq) (sLimD (s2 dItV (sVvar 1 3) (sCon (.int 13)))) (sVar 2) [S, K, some (.dat (.int r)), some (.rel 1 (mk r)), c4, c5, none] = .ok (.bool false) [S, K, some (.dat (.int r)), some (.rel 1 (mk r)), c4, c5, none] := by
    have : sLimD (s2 dItV (sVvar 1 3) (sCon (.int 13))) [S, K, some (.dat (.int r)), some (.rel 1 (mk r)), c4, c5, none] = .ok (.int r) [S, K, some (.dat (.int r)), some (.rel 1 (mk r)), c4, c5, none] := by rfl
    refine ev_s2 (g := bCmp .NotEq) (x := .int r) (y := .int r) (z := .bool false) this rfl ?_
    unfold bCmp
    rw [ne_ii]
    simp
  unfold pD sIf
  rw [e1]
  rfl
theorem eE {S : C} {K L c3 c4 c5 : Option C} : pE [some S, K, L, c3, c4, c5, none] = .ret (.bool true) [some S, K, L, c3, c4, c5, none] := by kernel_rfl
end K17

set_option maxRecDepth 100000
set_option maxHeartbeats 4000000
namespace K17
open PySem PySem.Spec PyProof.Rows L2 Rf
theorem ev_cons {α : Type} {f : Rho → O α} {g : Rho → O (List α)} {ρ ρ1 ρ2 : Rho} {x : α} {xs : List α} (h : f ρ = .ok x ρ1) (k : g ρ1 = .ok xs ρ2) : sCons f g ρ = .ok (x :: xs) ρ2 := by
  unfold sCons
  rw [h]
  show O.bind (g ρ1) _ = _
  rw [k]; rfl
abbrev sD (ns : List Int) : Option C := some (.dat (.list (ns.map .int)))
theorem eA {ns : List Int} {k : Int} {c2 c3 c4 c5 : Option C} (hl : ns.length ≤ 63) (h0 : 0 ≤ k) (h1 : k ≤ 63) (hc : c2 = none ∨ ∃ d, c2 = some (.dat d)) :
    ∃ r : Int, 0 ≤ r ∧ r < 99 ∧ pA [sD ns, some (.dat (.int k)), c2, c3, c4, c5, none] = .nx [sD ns, some (.dat (.int k)), some (.dat (.int r)), c3, c4, c5, none] := by
  obtain ⟨l, e1, p⟩ := v_pot_of hl h0 h1
  obtain ⟨r, l', e2, r0, r1, _⟩ := v_dip (many := 99) p (by omega) (by omega)
  refine ⟨r, r0, r1, ?_⟩
  have g1 : sCallO (mD r_pot_of) (sCons (sVar 0) (sCons (sVar 1) sNil)) [sD ns, some (.dat (.int k)), c2, c3, c4, c5, none] = .ok l [sD ns, some (.dat (.int k)), c2, c3, c4, c5, none] := by
    show (match mD r_pot_of ([PyData.list (ns.map .int), .int k].map .dat) with | .retO l _ => O.ok l [sD ns, some (.dat (.int k)), c2, c3, c4, c5, none] | .exc e _ => .ex e [sD ns, some (.dat (.int k)), c2, c3, c4, c5, none] | _ => .no) = _
    unfold mD
    rw [datsOf_dats]
    dsimp only
    rw [e1]
  have g2 : sCallT (mR r_dip) (sCallO (mD r_pot_of) (sCons (sVar 0) (sCons (sVar 1) sNil))) 99 [sD ns, some (.dat (.int k)), c2, c3, c4, c5, none] = .ok (.int r) [sD ns, some (.dat (.int k)), c2, c3, c4, c5, none] := by
    unfold sCallT
    rw [g1]
    show (match (match r_dip l [.int 99] with | .ret d l' => FR.ret d [.ref l', .dat (.int 99)] | .exc e l' => .exc e [.ref l', .dat (.int 99)] | .no => .no) with | .ret d (.ref _ :: _) => O.ok d [sD ns, some (.dat (.int k)), c2, c3, c4, c5, none] | .exc e (.ref _ :: _) => .ex e [sD ns, some (.dat (.int k)), c2, c3, c4, c5, none] | _ => .no) = _
    rw [e2]
  unfold pA sAsg
  rw [g2]
  rcases hc with rfl | ⟨d, rfl⟩ <;> rfl
/-- what holds ahead of each turn -/
def Ok (ns : List Int) (ρ : Rho) : Prop := ∃ c1 c2 c3 c4 c5, ρ = [sD ns, c1, c2, c3, c4, c5, none] ∧ (c1 = none ∨ ∃ d, c1 = some (.dat d)) ∧ (c2 = none ∨ ∃ d, c2 = some (.dat d)) ∧ Sh c3 c4 c5
theorem turn {ns : List Int} {k : Int} {ρ : Rho} (hl : ns.length ≤ 63) (h0 : 0 ≤ k) (h1 : k ≤ 63) (h : Ok ns ρ) : ∃ ρ1 ρ2, Rf.bindT (.nm 1) (.int k) ρ = some ρ1 ∧ (sSeq pA (sSeq pB (sSeq pC (sSeq pD sSkip)))) ρ1 = .nx ρ2 ∧ Ok ns ρ2 := by
  obtain ⟨c1, c2, c3, c4, c5, rfl, h1', h2', hs⟩ := h
  obtain ⟨r, r0, r1, ea⟩ := eA (c3 := c3) (c4 := c4) (c5 := c5) hl h0 h1 h2'
  refine ⟨[sD ns, some (.dat (.int k)), c2, c3, c4, c5, none], _, by rcases h1' with rfl | ⟨d, rfl⟩ <;> rfl, ?_, _, _, _, _, _, rfl, .inr ⟨.int k, rfl⟩, .inr ⟨.int r, rfl⟩, .at (mk r) (.int 13) (.int r)⟩
  rw [ev_seq ea, ev_seq (eB (by omega) hs), ev_seq (eC hs), ev_seq eD]
  rfl
theorem turns {ns : List Int} (hl : ns.length ≤ 63) : ∀ (ks : List Int) (ρ : Rho), (∀ k ∈ ks, 0 ≤ k ∧ k ≤ 63) → Ok ns ρ → ∃ ρ', forGo (.nm 1) (sSeq pA (sSeq pB (sSeq pC (sSeq pD sSkip)))) (ks.map .int) ρ = .nx ρ' ∧ Ok ns ρ'
  | [], ρ, _, h => ⟨ρ, rfl, h⟩
  | k :: ks, ρ, hk, h => by
    obtain ⟨ρ1, ρ2, e1, e2, h2⟩ := turn hl (hk k List.mem_cons_self).1 (hk k List.mem_cons_self).2 h
    obtain ⟨ρ3, e3, h3⟩ := turns hl ks ρ2 (fun x hx => hk x (List.mem_cons_of_mem _ hx)) h2
    refine ⟨ρ3, ?_, h3⟩
    rw [List.map_cons]
    unfold forGo
    rw [e1]
    dsimp only
    rw [e2]
    exact e3
theorem rangeD_eq (j : Nat) : rangeD 0 j = ((List.range j).map fun (k : Nat) => (k : Int)).map PyData.int := by
  unfold rangeD
  rw [List.map_map]
  apply List.map_congr_left
  intro k _
  simp
theorem v_law {ns : List Int} (hl : ns.length ≤ 63) : r_law [.list (ns.map .int)] = .ret (.bool true) := by
  obtain ⟨many, hm⟩ : ∃ many : Int, many = 1 + (if (4 : Int) < (ns.length : Int) then 4 else (ns.length : Int)) := ⟨_, rfl⟩
  have hmb : 0 ≤ many ∧ many ≤ 5 := by rw [hm]; split <;> omega
  have ei : pI [sD ns, none, none, none, none, none, none] = .ok (((List.range many.toNat).map fun (k : Nat) => (k : Int)).map PyData.int) [sD ns, none, none, none, none, none, none] := by
    have e1 : Rf.s2 (dBin .Add) (sCon (.int 1)) (sCall dMin (sCons (sCall dLen (sCons (sVar 0) sNil)) (sCons (sCon (.int 4)) sNil))) [sD ns, none, none, none, none, none, none] = .ok (.int many) [sD ns, none, none, none, none, none, none] := by
      rw [hm]
      have : (ns.length : Int) = (((ns.map PyData.int).length : Nat) : Int) := by rw [List.length_map]
      rw [this]
      rfl
    unfold pI sRng
    rw [show sCons (Rf.s2 (dBin .Add) (sCon (.int 1)) (sCall dMin (sCons (sCall dLen (sCons (sVar 0) sNil)) (sCons (sCon (.int 4)) sNil)))) sNil [sD ns, none, none, none, none, none, none] = .ok [.int many] [sD ns, none, none, none, none, none, none] from ev_cons e1 rfl]
    show (if -(2 ^ 62) ≤ many ∧ many ≤ 16777216 then O.ok (rangeD 0 many.toNat) [sD ns, none, none, none, none, none, none] else O.no) = _
    rw [if_pos (by omega), rangeD_eq]
  obtain ⟨ρ', e2, c1, c2, c3, c4, c5, rfl, _⟩ := turns hl ((List.range many.toNat).map fun (k : Nat) => (k : Int)) [sD ns, none, none, none, none, none, none] (fun k hk => by
    obtain ⟨m, hm1, rfl⟩ := List.mem_map.mp hk
    have := List.mem_range.mp hm1
    omega) ⟨none, none, none, none, none, rfl, .inl rfl, .inl rfl, .no⟩
  have e3 : fn_law r_pot_of r_dip r_made r_is [sD ns, none, none, none, none, none, none] = .ret (.bool true) [sD ns, c1, c2, c3, c4, c5, none] := by
    rw [law_split, ev_seq (ev_for ei |>.trans e2)]
    unfold sSeq
    rw [eE]; rfl
  show (match fn_law r_pot_of r_dip r_made r_is [sD ns, none, none, none, none, none, none] with | .nx _ => FD.ret .none | .ret d _ => .ret d | .retO l _ => .retO l | .retK l _ => .retK l | .retV k l _ => .retV k l | .ex e _ => .exc e | .no => .no) = _
  rw [e3]
end K17

set_option maxRecDepth 100000
set_option maxHeartbeats 4000000
namespace K17
open PySem PySem.Spec PyProof.Rows L2 Rf
section
variable {B : Bs} {P : Program} {w : World} {mg : Str → Option Value} {base : Heap} {Tb : List (Addr × Str)} {L : List (Str × Addr)} {cm : Addr}
theorem g__law_pot_of (T : Txt B P w mg base Tb L cm) : FnGood B P w mg base 1 "_law_pot_of" 2 (mD r_pot_of) := ok__law_pot_of (k := 0) T
theorem g__law_dip (T : Txt B P w mg base Tb L cm) : FnGood B P w mg base 1 "_law_dip" 2 (mR r_dip) := ok__law_dip (k := 0) T
theorem g__law_made (T : Txt B P w mg base Tb L cm) : FnGood B P w mg base 1 "_law_made" 0 (mD r_made) := ok__law_made (k := 0) T
theorem g__law_is (T : Txt B P w mg base Tb L cm) : FnGood B P w mg base 1 "_law_is" 1 (mV r_is) := ok__law_is (k := 0) T
theorem law_fn (T : Txt B P w mg base Tb L cm) {f : Addr} {fd : FuncData} (F : Fun B.K "law" "law" (top 21) f fd) : FnOk P w B.K mg base (L2N.CX P w) 4 f fd ["script"] (spOf B (mD r_law)) := by
  exact ok_D (B := B) (k := 3) F sc_law (body_law (k := 1) T _ _ _ _ (g__law_pot_of T) (by decide) (g__law_dip T) (by decide) (g__law_made T) (by decide) (g__law_is T) (by decide) f)
end
end K17

set_option maxRecDepth 100000
set_option maxHeartbeats 4000000
namespace K17
open PySem PySem.Spec PyProof.Rows L2 Rf
theorem txt_mk {K : PySem.W.Frag} {h : Heap} {mg : Str → Option Value} {P : Program} {w : World} {base : Heap} (X : K.In h) (G : h.Ns mainGlobals mg) {f0 : Addr} {od0 an0 : Option Addr} {sl0 : Array (Option Value)} {oc0 kV0 dc0 pm0 ct0 : Value} {cd0 : Value} {f1 : Addr} {od1 an1 : Option Addr} {sl1 : Array (Option Value)} {oc1 kV1 dc1 pm1 ct1 : Value} {cd1 : Value} {f2 : Addr} {od2 an2 : Option Addr} {sl2 : Array (Option Value)} {oc2 kV2 dc2 pm2 ct2 : Value} {cd2 : Value} {f3 : Addr} {od3 an3 : Option Addr} {sl3 : Array (Option Value)} {oc3 kV3 dc3 pm3 ct3 : Value} {cd3 : Value} {f4 : Addr} {od4 an4 : Option Addr} {sl4 : Array (Option Value)} {oc4 kV4 dc4 pm4 ct4 : Value} {cd4 : Value} {C0 C1 C2 C3 C4 C5 C6 C7 C8 C9 C10 C11 C12 C13 cm fI : Addr} {odI anI : Option Addr} {slI : Array (Option Value)} {ocI kVI dcI pmI ctI : Value} {cdI : Value}
    (z_ValueError : PySem.W.nsIn K mainGlobals "ValueError" = some none)
    (z_abs : PySem.W.nsIn K mainGlobals "abs" = some none)
    (z_int : PySem.W.nsIn K mainGlobals "int" = some none)
    (z_isinstance : PySem.W.nsIn K mainGlobals "isinstance" = some none)
    (z_len : PySem.W.nsIn K mainGlobals "len" = some none)
    (z_min : PySem.W.nsIn K mainGlobals "min" = some none)
    (z_range : PySem.W.nsIn K mainGlobals "range" = some none)
    (z_str : PySem.W.nsIn K mainGlobals "str" = some none)
    (a0 : PySem.W.nsIn K mainGlobals "_law_pot_of" = some (some (.ref f0)))
    (l0 : K.lookup f0 = some ⟨oc0, od0, .func (PySem.W.fnOf "_law_pot_of" "_law_pot_of" (defArgs (top 17)) (defBody (top 17)) (defScope (top 17)) .none kV0 dc0 pm0 an0 cd0 ct0), sl0⟩)
    (c_0 : PySem.W.codeIn K cd0 "_law_pot_of" = true)
    (k0 : PySem.W.keepIn K (.ref f0) = true)
    (a1 : PySem.W.nsIn K mainGlobals "_law_dip" = some (some (.ref f1)))
    (l1 : K.lookup f1 = some ⟨oc1, od1, .func (PySem.W.fnOf "_law_dip" "_law_dip" (defArgs (top 18)) (defBody (top 18)) (defScope (top 18)) .none kV1 dc1 pm1 an1 cd1 ct1), sl1⟩)
    (c_1 : PySem.W.codeIn K cd1 "_law_dip" = true)
    (k1 : PySem.W.keepIn K (.ref f1) = true)
    (a2 : PySem.W.nsIn K mainGlobals "_law_made" = some (some (.ref f2)))
    (l2 : K.lookup f2 = some ⟨oc2, od2, .func (PySem.W.fnOf "_law_made" "_law_made" (defArgs (top 19)) (defBody (top 19)) (defScope (top 19)) .none kV2 dc2 pm2 an2 cd2 ct2), sl2⟩)
    (c_2 : PySem.W.codeIn K cd2 "_law_made" = true)
    (k2 : PySem.W.keepIn K (.ref f2) = true)
    (a3 : PySem.W.nsIn K mainGlobals "_law_is" = some (some (.ref f3)))
    (l3 : K.lookup f3 = some ⟨oc3, od3, .func (PySem.W.fnOf "_law_is" "_law_is" (defArgs (top 20)) (defBody (top 20)) (defScope (top 20)) .none kV3 dc3 pm3 an3 cd3 ct3), sl3⟩)
    (c_3 : PySem.W.codeIn K cd3 "_law_is" = true)
    (k3 : PySem.W.keepIn K (.ref f3) = true)
    (a4 : PySem.W.nsIn K mainGlobals "law" = some (some (.ref f4)))
    (l4 : K.lookup f4 = some ⟨oc4, od4, .func (PySem.W.fnOf "law" "law" (defArgs (top 21)) (defBody (top 21)) (defScope (top 21)) .none kV4 dc4 pm4 an4 cd4 ct4), sl4⟩)
    (c_4 : PySem.W.codeIn K cd4 "law" = true)
    (k4 : PySem.W.keepIn K (.ref f4) = true)
    (e0 : PySem.W.nsIn K mainGlobals "InvalidWeb" = some (some (.ref C0)))
    (e1 : PySem.W.nsIn K mainGlobals "InvalidLot" = some (some (.ref C1)))
    (e2 : PySem.W.nsIn K mainGlobals "InvalidPlace" = some (some (.ref C2)))
    (e3 : PySem.W.nsIn K mainGlobals "InvalidKind" = some (some (.ref C3)))
    (e4 : PySem.W.nsIn K mainGlobals "InvalidBound" = some (some (.ref C4)))
    (e5 : PySem.W.nsIn K mainGlobals "InvalidNumber" = some (some (.ref C5)))
    (e6 : PySem.W.nsIn K mainGlobals "InvalidTies" = some (some (.ref C6)))
    (e7 : PySem.W.nsIn K mainGlobals "InvalidSteps" = some (some (.ref C7)))
    (e8 : PySem.W.nsIn K mainGlobals "InvalidFacts" = some (some (.ref C8)))
    (e9 : PySem.W.nsIn K mainGlobals "InvalidSwitch" = some (some (.ref C9)))
    (e10 : PySem.W.nsIn K mainGlobals "InvalidText" = some (some (.ref C10)))
    (e11 : PySem.W.nsIn K mainGlobals "Unlike" = some (some (.ref C11)))
    (e12 : PySem.W.nsIn K mainGlobals "NothingToUndo" = some (some (.ref C12)))
    (e13 : PySem.W.nsIn K mainGlobals "SpreadError" = some (some (.ref C13)))
    (em : PySem.W.nsIn K mainGlobals "TooMany" = some (some (.ref cm)))
    (ei : PySem.W.findIn K (.ref cm) "__init__" = some (some (.ref fI)))
    (hv : valsB K [("InvalidWeb", C0), ("InvalidLot", C1), ("InvalidPlace", C2), ("InvalidKind", C3), ("InvalidBound", C4), ("InvalidNumber", C5), ("InvalidTies", C6), ("InvalidSteps", C7), ("InvalidFacts", C8), ("InvalidSwitch", C9), ("InvalidText", C10), ("Unlike", C11), ("NothingToUndo", C12), ("SpreadError", C13)] cm = true)
    (el : limB K cm fI = true)
    (er1 : PySem.W.readsIn K C13 (.type "type") = true)
    (er2 : PySem.W.specialIn K (.ref C13) "__getattribute__" = some (some (.builtin "type.__getattribute__")))
    (er3 : PySem.W.findCls K (.ref C13) (.type "type") "__init__" = some (.val (.builtin "ValueError.__init__")))
    (lI : K.lookup fI = some ⟨ocI, odI, .func (PySem.W.fnOf "__init__" "TooMany.__init__" (defArgs (inClass (top 15) 0)) (defBody (inClass (top 15) 0)) (defScope (inClass (top 15) 0)) .none kVI dcI pmI anI cdI ctI), slI⟩)
    (c_I : PySem.W.codeIn K cdI "TooMany.__init__" = true)
    (kI : PySem.W.keepIn K (.ref fI) = true) : Txt (Be K [] (clOf [("InvalidWeb", C0), ("InvalidLot", C1), ("InvalidPlace", C2), ("InvalidKind", C3), ("InvalidBound", C4), ("InvalidNumber", C5), ("InvalidTies", C6), ("InvalidSteps", C7), ("InvalidFacts", C8), ("InvalidSwitch", C9), ("InvalidText", C10), ("Unlike", C11), ("NothingToUndo", C12), ("SpreadError", C13)]) cm) P w mg base [] [("InvalidWeb", C0), ("InvalidLot", C1), ("InvalidPlace", C2), ("InvalidKind", C3), ("InvalidBound", C4), ("InvalidNumber", C5), ("InvalidTies", C6), ("InvalidSteps", C7), ("InvalidFacts", C8), ("InvalidSwitch", C9), ("InvalidText", C10), ("Unlike", C11), ("NothingToUndo", C12), ("SpreadError", C13)] cm := by
  exact {
    z_ValueError := PySem.W.mg_none_of X G z_ValueError
    z_abs := PySem.W.mg_none_of X G z_abs
    z_int := PySem.W.mg_none_of X G z_int
    z_isinstance := PySem.W.mg_none_of X G z_isinstance
    z_len := PySem.W.mg_none_of X G z_len
    z_min := PySem.W.mg_none_of X G z_min
    z_range := PySem.W.mg_none_of X G z_range
    z_str := PySem.W.mg_none_of X G z_str
    d__law_pot_of := ⟨_, _, fun_mk (st := (top 17)) l0 c_0 k0, (fun_mk (st := (top 17)) l0 c_0 k0).binds (ps := ["script", "k"]) fun _ _ _ _ _ _ us hl => match us, hl with | [_, _], _ => rfl, PySem.W.mg_of X G a0⟩
    d__law_dip := ⟨_, _, fun_mk (st := (top 18)) l1 c_1 k1, (fun_mk (st := (top 18)) l1 c_1 k1).binds (ps := ["pot", "many"]) fun _ _ _ _ _ _ us hl => match us, hl with | [_, _], _ => rfl, PySem.W.mg_of X G a1⟩
    d__law_made := ⟨_, _, fun_mk (st := (top 19)) l2 c_2 k2, (fun_mk (st := (top 19)) l2 c_2 k2).binds (ps := []) fun _ _ _ _ _ _ us hl => match us, hl with | [], _ => rfl, PySem.W.mg_of X G a2⟩
    d__law_is := ⟨_, _, fun_mk (st := (top 20)) l3 c_3 k3, (fun_mk (st := (top 20)) l3 c_3 k3).binds (ps := ["one"]) fun _ _ _ _ _ _ us hl => match us, hl with | [_], _ => rfl, PySem.W.mg_of X G a3⟩
    d_law := ⟨_, _, fun_mk (st := (top 21)) l4 c_4 k4, (fun_mk (st := (top 21)) l4 c_4 k4).binds (ps := ["script"]) fun _ _ _ _ _ _ us hl => match us, hl with | [_], _ => rfl, PySem.W.mg_of X G a4⟩
    va := ⟨fun nm C h => by simp only [List.mem_cons, Prod.mk.injEq, List.not_mem_nil, or_false] at h; rcases h with ⟨rfl, rfl⟩ | ⟨rfl, rfl⟩ | ⟨rfl, rfl⟩ | ⟨rfl, rfl⟩ | ⟨rfl, rfl⟩ | ⟨rfl, rfl⟩ | ⟨rfl, rfl⟩ | ⟨rfl, rfl⟩ | ⟨rfl, rfl⟩ | ⟨rfl, rfl⟩ | ⟨rfl, rfl⟩ | ⟨rfl, rfl⟩ | ⟨rfl, rfl⟩ | ⟨rfl, rfl⟩; exact PySem.W.mg_of X G e0; exact PySem.W.mg_of X G e1; exact PySem.W.mg_of X G e2; exact PySem.W.mg_of X G e3; exact PySem.W.mg_of X G e4; exact PySem.W.mg_of X G e5; exact PySem.W.mg_of X G e6; exact PySem.W.mg_of X G e7; exact PySem.W.mg_of X G e8; exact PySem.W.mg_of X G e9; exact PySem.W.mg_of X G e10; exact PySem.W.mg_of X G e11; exact PySem.W.mg_of X G e12; exact PySem.W.mg_of X G e13, PySem.W.mg_of X G em, hv⟩
    rv := rfl
    nmv := fun m h => by simp only [erNames, errNames, List.mem_cons, List.not_mem_nil, or_false] at h; rcases h with rfl | rfl | rfl | rfl | rfl | rfl | rfl | rfl | rfl | rfl | rfl | rfl | rfl | rfl; exact ⟨C13, rfl⟩; exact ⟨C0, rfl⟩; exact ⟨C1, rfl⟩; exact ⟨C2, rfl⟩; exact ⟨C3, rfl⟩; exact ⟨C4, rfl⟩; exact ⟨C5, rfl⟩; exact ⟨C6, rfl⟩; exact ⟨C7, rfl⟩; exact ⟨C8, rfl⟩; exact ⟨C9, rfl⟩; exact ⟨C10, rfl⟩; exact ⟨C11, rfl⟩; exact ⟨C12, rfl⟩
    lim := Lims.limE ⟨PySem.W.mg_of X G em, el⟩ (lim_init (st := (inClass (top 15) 0)) (fun_mk lI c_I kI) ⟨rfl, rfl, rfl, by decide +kernel, rfl, by decide +kernel, by decide +kernel⟩ rfl rfl rfl rfl rfl (PySem.W.mg_of X G e13) ⟨er1, er2⟩ er3 (PySem.W.mg_none_of X G z_str) (fun _ => rfl)) ((fun_mk (st := (inClass (top 15) 0)) lI c_I kI).binds (ps := ["self", "limit"]) fun _ _ _ _ _ _ us hl => match us, hl with | [_, _], _ => rfl)
  }
theorem foot {l : PySem.W.OpenLaw} {q : Program} {w : World} {K : PySem.W.Frag} {h : Heap} {mg : Str → Option Value} {fa : Addr} (X : K.In h) (G : h.Ns mainGlobals mg) (hfa : mg "law" = some (.ref fa)) (TT : TopTabs q mg K h) {f0 : Addr} {od0 an0 : Option Addr} {sl0 : Array (Option Value)} {oc0 kV0 dc0 pm0 ct0 : Value} {cd0 : Value} {f1 : Addr} {od1 an1 : Option Addr} {sl1 : Array (Option Value)} {oc1 kV1 dc1 pm1 ct1 : Value} {cd1 : Value} {f2 : Addr} {od2 an2 : Option Addr} {sl2 : Array (Option Value)} {oc2 kV2 dc2 pm2 ct2 : Value} {cd2 : Value} {f3 : Addr} {od3 an3 : Option Addr} {sl3 : Array (Option Value)} {oc3 kV3 dc3 pm3 ct3 : Value} {cd3 : Value} {f4 : Addr} {od4 an4 : Option Addr} {sl4 : Array (Option Value)} {oc4 kV4 dc4 pm4 ct4 : Value} {cd4 : Value} {C0 C1 C2 C3 C4 C5 C6 C7 C8 C9 C10 C11 C12 C13 cm fI : Addr} {odI anI : Option Addr} {slI : Array (Option Value)} {ocI kVI dcI pmI ctI : Value} {cdI : Value} 
    (z_ValueError : PySem.W.nsIn K mainGlobals "ValueError" = some none)
    (z_abs : PySem.W.nsIn K mainGlobals "abs" = some none)
    (z_int : PySem.W.nsIn K mainGlobals "int" = some none)
    (z_isinstance : PySem.W.nsIn K mainGlobals "isinstance" = some none)
    (z_len : PySem.W.nsIn K mainGlobals "len" = some none)
    (z_min : PySem.W.nsIn K mainGlobals "min" = some none)
    (z_range : PySem.W.nsIn K mainGlobals "range" = some none)
    (z_str : PySem.W.nsIn K mainGlobals "str" = some none)
    (a0 : PySem.W.nsIn K mainGlobals "_law_pot_of" = some (some (.ref f0)))
    (l0 : K.lookup f0 = some ⟨oc0, od0, .func (PySem.W.fnOf "_law_pot_of" "_law_pot_of" (defArgs (top 17)) (defBody (top 17)) (defScope (top 17)) .none kV0 dc0 pm0 an0 cd0 ct0), sl0⟩)
    (c_0 : PySem.W.codeIn K cd0 "_law_pot_of" = true)
    (k0 : PySem.W.keepIn K (.ref f0) = true)
    (a1 : PySem.W.nsIn K mainGlobals "_law_dip" = some (some (.ref f1)))
    (l1 : K.lookup f1 = some ⟨oc1, od1, .func (PySem.W.fnOf "_law_dip" "_law_dip" (defArgs (top 18)) (defBody (top 18)) (defScope (top 18)) .none kV1 dc1 pm1 an1 cd1 ct1), sl1⟩)
    (c_1 : PySem.W.codeIn K cd1 "_law_dip" = true)
    (k1 : PySem.W.keepIn K (.ref f1) = true)
    (a2 : PySem.W.nsIn K mainGlobals "_law_made" = some (some (.ref f2)))
    (l2 : K.lookup f2 = some ⟨oc2, od2, .func (PySem.W.fnOf "_law_made" "_law_made" (defArgs (top 19)) (defBody (top 19)) (defScope (top 19)) .none kV2 dc2 pm2 an2 cd2 ct2), sl2⟩)
    (c_2 : PySem.W.codeIn K cd2 "_law_made" = true)
    (k2 : PySem.W.keepIn K (.ref f2) = true)
    (a3 : PySem.W.nsIn K mainGlobals "_law_is" = some (some (.ref f3)))
    (l3 : K.lookup f3 = some ⟨oc3, od3, .func (PySem.W.fnOf "_law_is" "_law_is" (defArgs (top 20)) (defBody (top 20)) (defScope (top 20)) .none kV3 dc3 pm3 an3 cd3 ct3), sl3⟩)
    (c_3 : PySem.W.codeIn K cd3 "_law_is" = true)
    (k3 : PySem.W.keepIn K (.ref f3) = true)
    (a4 : PySem.W.nsIn K mainGlobals "law" = some (some (.ref f4)))
    (l4 : K.lookup f4 = some ⟨oc4, od4, .func (PySem.W.fnOf "law" "law" (defArgs (top 21)) (defBody (top 21)) (defScope (top 21)) .none kV4 dc4 pm4 an4 cd4 ct4), sl4⟩)
    (c_4 : PySem.W.codeIn K cd4 "law" = true)
    (k4 : PySem.W.keepIn K (.ref f4) = true)
    (e0 : PySem.W.nsIn K mainGlobals "InvalidWeb" = some (some (.ref C0)))
    (e1 : PySem.W.nsIn K mainGlobals "InvalidLot" = some (some (.ref C1)))
    (e2 : PySem.W.nsIn K mainGlobals "InvalidPlace" = some (some (.ref C2)))
    (e3 : PySem.W.nsIn K mainGlobals "InvalidKind" = some (some (.ref C3)))
    (e4 : PySem.W.nsIn K mainGlobals "InvalidBound" = some (some (.ref C4)))
    (e5 : PySem.W.nsIn K mainGlobals "InvalidNumber" = some (some (.ref C5)))
    (e6 : PySem.W.nsIn K mainGlobals "InvalidTies" = some (some (.ref C6)))
    (e7 : PySem.W.nsIn K mainGlobals "InvalidSteps" = some (some (.ref C7)))
    (e8 : PySem.W.nsIn K mainGlobals "InvalidFacts" = some (some (.ref C8)))
    (e9 : PySem.W.nsIn K mainGlobals "InvalidSwitch" = some (some (.ref C9)))
    (e10 : PySem.W.nsIn K mainGlobals "InvalidText" = some (some (.ref C10)))
    (e11 : PySem.W.nsIn K mainGlobals "Unlike" = some (some (.ref C11)))
    (e12 : PySem.W.nsIn K mainGlobals "NothingToUndo" = some (some (.ref C12)))
    (e13 : PySem.W.nsIn K mainGlobals "SpreadError" = some (some (.ref C13)))
    (em : PySem.W.nsIn K mainGlobals "TooMany" = some (some (.ref cm)))
    (ei : PySem.W.findIn K (.ref cm) "__init__" = some (some (.ref fI)))
    (hv : valsB K [("InvalidWeb", C0), ("InvalidLot", C1), ("InvalidPlace", C2), ("InvalidKind", C3), ("InvalidBound", C4), ("InvalidNumber", C5), ("InvalidTies", C6), ("InvalidSteps", C7), ("InvalidFacts", C8), ("InvalidSwitch", C9), ("InvalidText", C10), ("Unlike", C11), ("NothingToUndo", C12), ("SpreadError", C13)] cm = true)
    (el : limB K cm fI = true)
    (er1 : PySem.W.readsIn K C13 (.type "type") = true)
    (er2 : PySem.W.specialIn K (.ref C13) "__getattribute__" = some (some (.builtin "type.__getattribute__")))
    (er3 : PySem.W.findCls K (.ref C13) (.type "type") "__init__" = some (.val (.builtin "ValueError.__init__")))
    (lI : K.lookup fI = some ⟨ocI, odI, .func (PySem.W.fnOf "__init__" "TooMany.__init__" (defArgs (inClass (top 15) 0)) (defBody (inClass (top 15) 0)) (defScope (inClass (top 15) 0)) .none kVI dcI pmI anI cdI ctI), slI⟩)
    (c_I : PySem.W.codeIn K cdI "TooMany.__init__" = true)
    (kI : PySem.W.keepIn K (.ref fI) = true)
    : LamX.LawAtS l w K (L2N.CX l.prog w) 4 63 "script" mg fa h := by
  have e0 := PySem.W.mg_of X G a4
  rw [hfa] at e0
  cases e0
  refine ⟨(PySem.W.fnOf "law" "law" (defArgs (top 21)) (defBody (top 21)) (defScope (top 21)) .none kV4 dc4 pm4 an4 cd4 ct4), [], spOf (Be K [] (clOf [("InvalidWeb", C0), ("InvalidLot", C1), ("InvalidPlace", C2), ("InvalidKind", C3), ("InvalidBound", C4), ("InvalidNumber", C5), ("InvalidTies", C6), ("InvalidSteps", C7), ("InvalidFacts", C8), ("InvalidSwitch", C9), ("InvalidText", C10), ("Unlike", C11), ("NothingToUndo", C12), ("SpreadError", C13)]) cm) (mD r_law), (fun p hp => absurd hp List.not_mem_nil), (fun p hp => absurd hp List.not_mem_nil), (fun p hp => absurd hp List.not_mem_nil), fun s u => .of_eq rfl, fun H a ns hl hb hT hS => spOf_lawT (fun p hp => absurd hp List.not_mem_nil) hS hl (v_law hl), fun base hK hG hTB => ?_⟩
  have T := txt_mk (P := l.prog) (w := w) (base := base) X G z_ValueError z_abs z_int z_isinstance z_len z_min z_range z_str a0 l0 c_0 k0 a1 l1 c_1 k1 a2 l2 c_2 k2 a3 l3 c_3 k3 a4 l4 c_4 k4 e0 e1 e2 e3 e4 e5 e6 e7 e8 e9 e10 e11 e12 e13 em ei hv el er1 er2 er3 lI c_I kI
  exact law_fn T (fun_mk (st := (top 21)) l4 c_4 k4)
end K17
open PySem PySem.W PyProof.Rows in
set_option maxRecDepth 100000 in
set_option maxHeartbeats 0 in
theorem PySem.Challenge.cw_spreadwebs_k17_error_classes_holds : PySem.Challenge.rw_spreadwebs_k17_error_classes.Holds := by
  w_on; o_law; k_head; (case hw => w_witness2)
  k_fill
  refine Rf.walk_ofTop (l := PySem.Challenge.rw_spreadwebs_k17_error_classes) (n := 63) (k := 4) (CX := fun w => L2N.CX PySem.Challenge.rw_spreadwebs_k17_error_classes.prog w) (x := "script") rfl (by decide) rfl ⟨rfl, by decide, by decide⟩ (fun w h Y => PySem.W.kIn_of Y) ?F fun w H s e s' z => Rf.cxN_none z
  case F =>
    intro w mg fa h Y KX G hmg TT
    refine' K17.foot KX G hmg TT ?z_ValueError ?z_abs ?z_int ?z_isinstance ?z_len ?z_min ?z_range ?z_str ?a0 ?l0 ?c_0 ?k0 ?a1 ?l1 ?c_1 ?k1 ?a2 ?l2 ?c_2 ?k2 ?a3 ?l3 ?c_3 ?k3 ?a4 ?l4 ?c_4 ?k4 ?e0 ?e1 ?e2 ?e3 ?e4 ?e5 ?e6 ?e7 ?e8 ?e9 ?e10 ?e11 ?e12 ?e13 ?em ?ei ?hv ?el ?er1 ?er2 ?er3 ?lI ?c_I ?kI 
    (case z_ValueError => k_is)
    (case z_abs => k_is)
    (case z_int => k_is)
    (case z_isinstance => k_is)
    (case z_len => k_is)
    (case z_min => k_is)
    (case z_range => k_is)
    (case z_str => k_is)
    (case a0 => k_is)
    (case l0 => k_is)
    (case c_0 => k_is)
    (case k0 => k_is)
    (case a1 => k_is)
    (case l1 => k_is)
    (case c_1 => k_is)
    (case k1 => k_is)
    (case a2 => k_is)
    (case l2 => k_is)
    (case c_2 => k_is)
    (case k2 => k_is)
    (case a3 => k_is)
    (case l3 => k_is)
    (case c_3 => k_is)
    (case k3 => k_is)
    (case a4 => k_is)
    (case l4 => k_is)
    (case c_4 => k_is)
    (case k4 => k_is)
    (case e0 => k_is)
    (case e1 => k_is)
    (case e2 => k_is)
    (case e3 => k_is)
    (case e4 => k_is)
    (case e5 => k_is)
    (case e6 => k_is)
    (case e7 => k_is)
    (case e8 => k_is)
    (case e9 => k_is)
    (case e10 => k_is)
    (case e11 => k_is)
    (case e12 => k_is)
    (case e13 => k_is)
    (case em => k_is)
    (case ei => k_is)
    (case hv => kernel_rfl)
    (case el => kernel_rfl)
    (case er1 => k_is)
    (case er2 => k_is)
    (case er3 => k_is)
    (case lI => k_is)
    (case c_I => k_is)
    (case kI => k_is)
