import PyProof.Rows.All
import HandS.ForMost
import HandS.TupAny
import HandS.Zip
import HandS.Iter
import HandS.Exc
import HandS.Hot
import HandS.HotCalls
import HandS.TryOnly
import HandS.Comp
import HandS.Lambda
import HandS.ExcCtx
import HandS.List
import KE.KTupSum
import KE.DataMinMax
import HandS.TupMul
import HandS.Wide
import KE.GoesEnum
import HandS.Dict
import HandS.Text
import HandS.Style
import HandS.Gcd
import HandS.Flow
import HandS.IsInst
import HandS.ExcOwn
import HandS.ExcIs
import HandS.HeadHook1
import HandS.Conv
import HandS.Small
import HandS.Defaults
import HandS.HeadEnd
import HandS.HeadHook2
import HandS.Head0
import HandS.Head1
import HandS.Head2
import HandS.HeadHook3
import HandS.HeadHook4
import HandS.HeadWalk
import Wide.All
import OpenK.AllK
import Wide.FinOn
import KE.KStateDown
import KE.HD3
import Lean
import PySem.Challenge.RW_gamesweighed_k58_whole_hats_in_a_line
set_option Elab.async false
set_option linter.all false
set_option maxRecDepth 100000
set_option maxHeartbeats 4000000
/-! HX1: walks that end while an exception is handled -/
namespace DLH
open PySem PySem.Spec PyProof.Rows HotX
section
variable {prog : Program} {w : World} {A : Around} {E : Value → Shared → Prop} {s : Shared}
/-- the making of a StopIteration and its raising, while x1 is handled -/
theorem stop_hot {α : Type} {x1 : Addr} {Q : α → Shared → Prop} (hot : HotAt A x1 s.heap)
    (h : ∀ h' e, (∀ b o, s.heap.get? b = some o → h'.get? b = some o) → (∃ o, h'.get? e = some o ∧ o.cls = .type "StopIteration") → E (.ref e) { s with heap := h' }) :
    wpAny (model prog w) A (newExc (.type "StopIteration") [] >>= fun x => (raiseNew x : Sem α)) Q E s := by
  obtain ⟨hd, ob, fs, g1, g2, g3⟩ := hot
  refine wpAny_bind ?_
  unfold newExc newTuple
  refine wpAny_bind (wpAny_newObj_type ?_ (by size_fits))
  refine wpAny_bind (m := firstArgMember _ _) (wpAny_of_eq (a := Value.none) ?_ ?_)
  · first
    | rfl
    | (unfold firstArgMember; rfl)
  refine wpAny_newObj_type ?_ (by size_fits)
  have k1 := Heap.get?_push_of_some { cls := .type "tuple", data := .seq #[] } g1
  refine raiseNew_hot ⟨hd, ob, fs, Heap.get?_push_of_some _ k1, g2, g3⟩ (Nat.ne_of_lt (Heap.lt_size k1)) (Heap.get?_push_size _ rfl) rfl ?_ ?_
  · first
    | (simp; done)
    | (simp; omega)
    | (simp only [Array.size_append]; simp; omega)
  refine h _ _ (fun b o e => ?_) ⟨_, Heap.get?_update_self _ (Heap.get?_push_size _ rfl) rfl, rfl⟩
  rw [Heap.get?_update_other _ _ (Nat.ne_of_gt (Heap.lt_size (Heap.get?_push_of_some _ e)))]
  exact Heap.get?_push_of_some _ (Heap.get?_push_of_some _ e)
theorem list_end_hot {it l x1 : Addr} {i : Nat} {xs : Array Value} {Q : Option Value → Shared → Prop} (hot : HotAt A x1 s.heap) (ne : x1 ≠ it) (hit : s.heap.IsListIter it l i) (hl : s.heap.IsList l xs) (hx : xs[i]? = none)
    (hQ : ∀ h', (∀ b o, b ≠ it → s.heap.get? b = some o → h'.get? b = some o) → Q none { s with heap := h' }) : wpAny (model prog w) A (pyNext (.ref it)) Q E s := by
  obtain ⟨oi, gi, ci, di⟩ := id hit
  obtain ⟨ol, gl, _, n, dl⟩ := hl
  unfold pyNext
  refine wpAny_bind (wpAny_attempt ?_)
  refine wpAny_callSpecial?_slot (name := Str.ofString "__next__") hit.typeIs slot_listiter_next ?_
  refine wpAny_call_entry slot_listiter_next hit.typeIs entry_listiter_next ?_ (args_listiter_next _)
  show wpAny _ _ (field (.ref it) 0 >>= _) _ _ s
  refine wpAny_bind (wpAny_field gi di (x := .ref l) rfl ?_)
  show wpAny _ _ (ite ((Value.ref l == Value.none) = true) _ _) _ _ s
  rw [if_neg (c := (Value.ref l == Value.none) = true) Bool.false_ne_true]
  show wpAny _ _ (field (.ref it) 1 >>= _) _ _ s
  refine wpAny_bind (wpAny_field gi di (x := .int i 0) rfl ?_)
  show wpAny _ _ (seqItems? (.ref l) >>= _) _ _ s
  refine wpAny_bind (wpAny_seqItems gl dl ?_)
  simp only [hx, Int.toNat_natCast]
  refine wpAny_bind (wpAny_rule (wpAny_bind (wpAny_setField gi di (by simp) ?_)))
  obtain ⟨hd, ob, fs, g1, g2, g3⟩ := hot
  refine stop_hot ⟨hd, ob, fs, ?_, g2, g3⟩ fun h' e k he => ?_
  · rw [Heap.get?_update_other _ _ ne.symm]
    exact g1
  · obtain ⟨oe, ge, ce⟩ := he
    refine wpAny_bind (wpAny_isInstance (T := "StopIteration") (b := true) ⟨oe, ge, ce⟩ isSubtype_stop ?_)
    refine wpAny_pure (hQ _ fun b o nb hb => k b o ?_)
    rw [Heap.get?_update_other _ _ (Ne.symm nb)]
    exact hb
theorem nextOf_end_hot {it l x1 : Addr} {i : Nat} {xs : Array Value} {Q : Value → Shared → Prop} (hot : HotAt A x1 s.heap) (ne : x1 ≠ it) (hit : s.heap.IsListIter it l i) (hl : s.heap.IsList l xs) (hx : xs[i]? = none)
    (hQ : ∀ h' e, (∀ b o, b ≠ it → s.heap.get? b = some o → h'.get? b = some o) → (∃ o, h'.get? e = some o ∧ o.cls = .type "StopIteration") → E (.ref e) { s with heap := h' }) : wpAny (model prog w) A (Builtin.SmallTypes.nextOf (.ref it)) Q E s := by
  obtain ⟨oi, gi, ci, di⟩ := id hit
  obtain ⟨ol, gl, _, n, dl⟩ := hl
  unfold Builtin.SmallTypes.nextOf
  refine wpAny_bind ?_
  refine wpAny_callSpecial?_slot (name := Str.ofString "__next__") hit.typeIs slot_listiter_next ?_
  refine wpAny_call_entry slot_listiter_next hit.typeIs entry_listiter_next ?_ (args_listiter_next _)
  show wpAny _ _ (field (.ref it) 0 >>= _) _ _ s
  refine wpAny_bind (wpAny_field gi di (x := .ref l) rfl ?_)
  show wpAny _ _ (ite ((Value.ref l == Value.none) = true) _ _) _ _ s
  rw [if_neg (c := (Value.ref l == Value.none) = true) Bool.false_ne_true]
  show wpAny _ _ (field (.ref it) 1 >>= _) _ _ s
  refine wpAny_bind (wpAny_field gi di (x := .int i 0) rfl ?_)
  show wpAny _ _ (seqItems? (.ref l) >>= _) _ _ s
  refine wpAny_bind (wpAny_seqItems gl dl ?_)
  simp only [hx, Int.toNat_natCast]
  refine wpAny_bind (wpAny_rule (wpAny_bind (wpAny_setField gi di (by simp) ?_)))
  obtain ⟨hd, ob, fs, g1, g2, g3⟩ := hot
  refine stop_hot ⟨hd, ob, fs, ?_, g2, g3⟩ fun h' e k he => ?_
  · rw [Heap.get?_update_other _ _ ne.symm]
    exact g1
  · refine hQ _ e (fun b o nb hb => k b o ?_) he
    rw [Heap.get?_update_other _ _ (Ne.symm nb)]
    exact hb
theorem hot_kept {x1 : Addr} {h h' : Heap} (hot : HotAt A x1 h) (k : ∀ o, h.get? x1 = some o → h'.get? x1 = some o) : HotAt A x1 h' := by
  obtain ⟨hd, ob, fs, g1, g2, g3⟩ := hot
  exact ⟨hd, ob, fs, k _ g1, g2, g3⟩
theorem zip_end0 {z TI TO i1 i2 l1 l2 x1 : Addr} {k1 k2 : Nat} {xs ys : Array Value} {a b : Value} {Q : Fin → Shared → Prop} (hot : HotAt A x1 s.heap) (n1 : x1 ≠ z) (n2 : x1 ≠ TO) (n3 : x1 ≠ i1) (n4 : x1 ≠ i2) (D : ZipApart z TI TO i1 i2 l1 l2)
    (hz : IsZip s.heap z TI TO .none) (hTI : IsPair s.heap TI (.ref i1) (.ref i2)) (hTO : IsPair s.heap TO a b) (h1 : s.heap.IsListIter i1 l1 k1) (h2 : s.heap.IsListIter i2 l2 k2) (e1 : s.heap.IsList l1 xs) (e2 : s.heap.IsList l2 ys)
    (hend : xs[k1]? = none ∨ ys[k2]? = none)
    (hE : ∀ h' e, (∀ c o, c ≠ z → c ≠ TO → c ≠ i1 → c ≠ i2 → s.heap.get? c = some o → h'.get? c = some o) → (∃ o, h'.get? e = some o ∧ o.cls = .type "StopIteration") → E (.ref e) { s with heap := h' }) :
    wpAny (model prog w) A (Builtin.«zip.__next__» ⟨[.ref z], []⟩) Q E s := by
  show wpAny _ _ (field (.ref z) 2 >>= _) _ _ _
  refine wpAny_bind (wpAny_field hz rfl (x := .bool false) rfl ?_)
  show wpAny _ _ (field (.ref z) 3 >>= _) _ _ _
  refine wpAny_bind (wpAny_field hz rfl (x := .ref TI) rfl ?_)
  refine wpAny_bind (wpAny_seqItems hTI rfl (wpAny_bind ?_))
  unfold Builtin.SmallTypes.ownedTupleIsFree
  refine wpAny_bind (wpAny_field hz rfl (x := .none) rfl (wpAny_pure ?_))
  simp only [if_true]
  refine wpAny_bind (wpAny_rule ?_)
  refine wpAny_bind (wpAny_field hz rfl (x := .ref TO) rfl (wpAny_bind (wpAny_setField_rec hz (by simp) fun g1 z1 s1 => ?_)))
  replace z1 : IsZip g1 z TI TO .ellipsis := z1
  have t1 := hot_kept hot fun o q => s1.extBut _ _ n1 q
  refine wpAny_bind ?_
  simp only [List.zipIdx_nil, List.zipIdx_cons, List.forIn_nil, List.forIn_cons]
  refine wpAny_bind (wpAny_bind (wpAny_onRaise ?_))
  show wpAny _ _ (Builtin.SmallTypes.nextOf (.ref i1) >>= _) _ _ _
  cases hx : xs[k1]? with
  | none =>
    refine wpAny_bind (nextOf_end_hot t1 n3 (h1.extBut s1.extBut D.i1z) (e1.extBut s1.extBut D.l1z) hx fun g2 e s2 he => ?_)
    obtain ⟨oe, ge, ce⟩ := he
    have z2 : IsZip g2 z TI TO .ellipsis := s2 _ _ D.i1z.symm z1
    have ez : e ≠ z := by
      rintro rfl
      rw [z2] at ge
      cases ge
      simp at ce
    exact wpAny_setField_rec z2 (by simp) fun g3 _ s3 => hE g3 e (fun c o c1 _ c3 _ q => s3.extBut _ _ c1 (s2 _ _ c3 (s1.extBut _ _ c1 q))) ⟨oe, s3.extBut _ _ ez ge, ce⟩
  | some x =>
    have hy : ys[k2]? = none := by
      rcases hend with q | q
      · rw [hx] at q
        cases q
      · exact q
    refine wpAny_bind (wpAny_nextOf_list_item (h1.extBut s1.extBut D.i1z) (e1.extBut s1.extBut D.l1z) hx fun g2 q2 s2 => wpAny_pure ?_)
    have p2 : IsPair g2 TO a b := s2.extBut _ _ D.TOi1 (s1.extBut _ _ D.TOz hTO)
    refine wpAny_bind (wpAny_seqItems p2 rfl (wpAny_bind (wpAny_updateSeq_pair p2 fun g3 p3 s3 => ?_)))
    refine wpAny_bind (wpAny_letGo (wpAny_pure (wpAny_bind (wpAny_bind (wpAny_onRaise ?_)))))
    show wpAny _ _ (Builtin.SmallTypes.nextOf (.ref i2) >>= _) _ _ _
    have t3 := hot_kept (hot_kept t1 fun o q => s2.extBut _ _ n3 q) fun o q => s3.extBut _ _ n2 q
    refine wpAny_bind (nextOf_end_hot t3 n4 (((h2.extBut s1.extBut D.i2z).extBut s2.extBut D.i12.symm).extBut s3.extBut D.TOi2.symm) (((e2.extBut s1.extBut D.l2z).extBut s2.extBut D.l2i1).extBut s3.extBut D.l2TO) hy fun g4 e s4 he => ?_)
    obtain ⟨oe, ge, ce⟩ := he
    have z4 : IsZip g4 z TI TO .ellipsis := s4 _ _ D.i2z.symm (s3.extBut _ _ D.TOz.symm (s2.extBut _ _ D.i1z.symm z1))
    have ez : e ≠ z := by
      rintro rfl
      rw [z4] at ge
      cases ge
      simp at ce
    exact wpAny_setField_rec z4 (by simp) fun g5 _ s5 => hE g5 e (fun c o c1 c2 c3 c4 q => s5.extBut _ _ c1 (s4 _ _ c4 (s3.extBut _ _ c2 (s2.extBut _ _ c3 (s1.extBut _ _ c1 q))))) ⟨oe, s5.extBut _ _ ez ge, ce⟩
theorem zip_end_hot {z TI TO i1 i2 l1 l2 x1 : Addr} {k1 k2 : Nat} {xs ys : Array Value} {a b : Value} {Q : Option Value → Shared → Prop} (hot : HotAt A x1 s.heap) (n1 : x1 ≠ z) (n2 : x1 ≠ TO) (n3 : x1 ≠ i1) (n4 : x1 ≠ i2) (D : ZipApart z TI TO i1 i2 l1 l2)
    (hz : IsZip s.heap z TI TO .none) (hTI : IsPair s.heap TI (.ref i1) (.ref i2)) (hTO : IsPair s.heap TO a b) (h1 : s.heap.IsListIter i1 l1 k1) (h2 : s.heap.IsListIter i2 l2 k2) (e1 : s.heap.IsList l1 xs) (e2 : s.heap.IsList l2 ys)
    (hend : xs[k1]? = none ∨ ys[k2]? = none) (hQ : ∀ h', (∀ c o, c ≠ z → c ≠ TO → c ≠ i1 → c ≠ i2 → s.heap.get? c = some o → h'.get? c = some o) → Q none { s with heap := h' }) : wpAny (model prog w) A (pyNext (.ref z)) Q E s := by
  have ty : s.TypeIs (.ref z) "zip" := ⟨_, hz, rfl⟩
  unfold pyNext
  refine wpAny_bind (wpAny_attempt (wpAny_callSpecial?_slot (name := Str.ofString "__next__") ty F.slot_zip_next ?_))
  refine wpAny_call_entry F.slot_zip_next ty F.entry_zip_next (zip_end0 hot n1 n2 n3 n4 D hz hTI hTO h1 h2 e1 e2 hend fun h' e k he => ?_) (F.args_zip_next_1 _)
  obtain ⟨o, ge, ce⟩ := he
  exact wpAny_bind (wpAny_isInstance (T := "StopIteration") (b := true) ⟨o, ge, ce⟩ isSubtype_stop (wpAny_pure (hQ _ k)))
end
end DLH
namespace L2H
open PySem PySem.Spec PyProof.Rows L2 HotX DLH
/-- the handled exception, where it stands in such a context -/
theorem hot_at {X : Cx} {pins : List (Addr × Obj)} {σ : L2.St} {H : Hp} {s : Shared} (c : HotC X) (I : Inv X pins σ H s) : ∃ x1, HotAt X.A x1 s.heap ∧ ∀ b, FpOk X pins H b → x1 ≠ b := by
  obtain ⟨p, ⟨hh, v1, e1, c1⟩, hp⟩ := c
  exact ⟨p.1, ⟨hh, p.2, v1, (I.pin p (List.mem_append_left _ hp)).1, e1, c1⟩, fun b f => f.2.2.2.2.2 p (List.mem_append_left _ hp)⟩
theorem turn_listH {P : Program} {w : World} {K : PySem.W.Frag} {tg : Expr} (a it : Addr) : TurnH P w K tg (Itl K a) [it] it (fun i h => h.IsListIter it a i) where
  mem := List.mem_singleton.mpr rfl
  obj := fun i h st b hb => by
    obtain rfl := List.mem_singleton.mp hb
    obtain ⟨o, e, c, d⟩ := st
    exact ⟨o, e, fun v q => by rw [d] at q; cases q⟩
  keep := fun i h h' st k => st.at fun o e => k it (List.mem_singleton.mpr rfl) o e
  item := by
    rintro X rfl rfl rfl hc i pins s σ H E I hf st ⟨xs, x, hq, hx⟩
    obtain ⟨its, rv, p, _⟩ := I.list hq
    obtain ⟨u, hu, ru⟩ := rv.get hx
    obtain ⟨f0, f1, _, f3, f4, f5⟩ := hf it (List.mem_singleton.mpr rfl)
    refine wpAny_pyNext_list_item st p.isList (x := u) (by simpa using hu) fun g st' sb => ⟨u, rfl, ?_⟩
    have J : Inv X pins σ H { s with heap := g } := I.turned (t' := s.toks) (fun b o hb e => (sb.2 b hb).trans e) f0 f1 f3 f4 f5
    obtain ⟨o, e, c, d⟩ := id st'
    refine go_of (s := { s with heap := g }) e c d (by decide) ⟨x, H, J, ru, ⟨rfl, fun ys hy => ?_⟩, st', fun b hb => (hf b hb).1⟩
    rw [I.list_inj hy hq]
    exact hx
  done := by
    rintro X rfl rfl rfl hc i pins s σ H E I hf st ⟨xs, hq, hx⟩
    obtain ⟨its, rv, p, _⟩ := I.list hq
    have fo := hf it (List.mem_singleton.mpr rfl)
    obtain ⟨x1, hot, away⟩ := hot_at hc I
    obtain ⟨f0, f1, _, f3, f4, f5⟩ := id fo
    have hl := rv.length
    refine list_end_hot hot (away it fo) st p.isList (by simp; omega) fun g k => ⟨rfl, ?_⟩
    exact I.turned (t' := s.toks) (fun b o hb e => k b o hb e) f0 f1 f3 f4 f5
  self := fun _ _ _ _ _ st h => wpAny_pyIter_listiter st h
theorem turn_zipH {P : Program} {w : World} {K : PySem.W.Frag} {es : List Expr} {kk : Nat} {tp : Pos} {a b z TI TO i1 i2 : Addr} (D : ZipApart z TI TO i1 i2 a b) (T : Turn P w K (.Tuple es kk tp) (Itz K a b) [z, TI, TO, i1, i2] z (fun i h => IsZip h z TI TO .none ∧ IsPair h TI (.ref i1) (.ref i2) ∧ (∃ x y, IsPair h TO x y) ∧ h.IsListIter i1 a i ∧ h.IsListIter i2 b i)) :
    TurnH P w K (.Tuple es kk tp) (Itz K a b) [z, TI, TO, i1, i2] z (fun i h => IsZip h z TI TO .none ∧ IsPair h TI (.ref i1) (.ref i2) ∧ (∃ x y, IsPair h TO x y) ∧ h.IsListIter i1 a i ∧ h.IsListIter i2 b i) where
  mem := T.mem
  obj := T.obj
  keep := T.keep
  item := by
    rintro X rfl rfl rfl hc i pins s σ H E I hf ⟨hz, hTI, ⟨x0, y0, hTO⟩, h1, h2⟩ ⟨xs, ys, x, y, qx, qy, hx, hy⟩
    obtain ⟨its, rv, p, _⟩ := I.list qx
    obtain ⟨jts, rw', p2, _⟩ := I.list qy
    obtain ⟨u, hu, ru⟩ := rv.get hx
    obtain ⟨t, ht, rt⟩ := rw'.get hy
    have lz : z < s.heap.objs.size := Heap.lt_size hz
    refine wpAny_pyNext_zip_item D hz hTI hTO h1 h2 p.isList p2.isList (x := u) (y := t) (by simpa using hu) (by simpa using ht) fun g z' TO' h1' h2' hT _ hk => ⟨_, rfl, ?_⟩
    refine wpAny_letOwnedTupleGo_zip (s := { s with heap := g }) z' fun g2 z2 sb => ?_
    have hT2 : g2.get? s.heap.objs.size = some { cls := .type "tuple", data := .seq #[u, t] } := (sb.2 _ (Nat.ne_of_gt lz)).trans hT
    have new : ObjOk X.prog X.w (upd H s.heap.objs.size (.tup [x, y])) g2 s.heap.objs.size (.tup [x, y]) := ⟨(by show 2 ≤ sizeLine; decide), [u, t], .cons ru (.cons rt .nil), ⟨_, hT2, rfl, _, rfl⟩⟩
    have far : ∀ c, c ∉ [z, TI, TO, i1, i2] → c ≠ z ∧ c ≠ TO ∧ c ≠ i1 ∧ c ≠ i2 := fun c hb => ⟨fun q => hb (by simp [q]), fun q => hb (by simp [q]), fun q => hb (by simp [q]), fun q => hb (by simp [q])⟩
    have J : Inv X pins σ (upd H s.heap.objs.size (.tup [x, y])) { s with heap := g2 } :=
      I.turnedNew (t' := s.toks) (ch := [z, TI, TO, i1, i2]) (fun c o hb q => (sb.2 c (far c hb).1).trans (hk c o (far c hb).1 (far c hb).2.1 (far c hb).2.2.1 (far c hb).2.2.2 q)) hf (Nat.le_refl _) new
    refine ⟨.ref s.heap.objs.size, _, J, rfl, ⟨_, x, y, rfl, I.hok.fresh (Nat.le_refl _), rfl, fun l hl => ?_, fun l hl => ?_⟩, ⟨z2, ?_, ⟨u, t, ?_⟩, ?_, ?_⟩, fun c hcm => ?_⟩
    · rw [I.list_inj hl qx]
      exact hx
    · rw [I.list_inj hl qy]
      exact hy
    · exact (sb.2 _ D.TIz).trans (hk _ _ D.TIz D.TITO D.TIi1 D.TIi2 hTI)
    · exact (sb.2 _ D.TOz).trans TO'
    · exact h1'.at fun o q => (sb.2 _ D.i1z).trans q
    · exact h2'.at fun o q => (sb.2 _ D.i2z).trans q
    · obtain ⟨o, ho, _⟩ := T.obj i s.heap ⟨hz, hTI, ⟨x0, y0, hTO⟩, h1, h2⟩ c hcm
      rw [upd_ne (Nat.ne_of_lt (Heap.lt_size ho))]
      exact (hf c hcm).1
  done := by
    rintro X rfl rfl rfl hc i pins s σ H E I hf ⟨hz, hTI, ⟨x0, y0, hTO⟩, h1, h2⟩ ⟨xs, ys, qx, qy, hend⟩
    obtain ⟨its, rv, p, _⟩ := I.list qx
    obtain ⟨jts, rw', p2, _⟩ := I.list qy
    have m1 := rv.length
    have m2 := rw'.length
    obtain ⟨x1, hot, away⟩ := hot_at hc I
    have he : its.toArray[i]? = none ∨ jts.toArray[i]? = none := hend.elim (fun q => .inl (by simp; omega)) fun q => .inr (by simp; omega)
    have ff : ∀ c, c ∈ [z, TI, TO, i1, i2] → x1 ≠ c := fun c h => away c (hf c h)
    refine zip_end_hot hot (ff z (by simp)) (ff TO (by simp)) (ff i1 (by simp)) (ff i2 (by simp)) D hz hTI hTO h1 h2 p.isList p2.isList he fun g hk => ⟨rfl, ?_⟩
    exact I.turnedL (t' := s.toks) (ch := [z, TI, TO, i1, i2]) (fun c o hb q => hk c o (fun r => hb (by simp [r])) (fun r => hb (by simp [r])) (fun r => hb (by simp [r])) (fun r => hb (by simp [r])) q) hf
  self := T.self
end L2H
/-! HX2: comprehensions while an exception is handled -/
namespace L2H
open PySem PySem.Spec PyProof.Rows L2 HotX DLH
abbrev blkH (X : Cx) (s : Shared) (H : Hp) (scope : Scope) (ce : Env) (fp : List Addr) : Cx := { X.blk s H scope ce fp with pn := X.pn }
section
variable {X : Cx}
theorem hot_blk {s : Shared} {H : Hp} {scope : Scope} {ce : Env} {fp : List Addr} (c : HotC X) : HotC (blkH X s H scope ce fp) := c
theorem ok_blk {s : Shared} {H : Hp} {scope : Scope} {ce : Env} {fp : List Addr} (k : (X.blk s H scope ce fp).Ok) : (blkH X s H scope ce fp).Ok :=
  ⟨k.mod, k.kind, k.glob, k.blt, k.above, k.inj, k.has, k.cab, k.hd, k.frames, k.stk, k.exf, k.bs, k.bsz, k.noex, k.exfs, k.funs, k.frf⟩
theorem block_startH {pins : List (Addr × Obj)} {σ : L2.St} {H : Hp} {s : Shared} {scope : Scope} {own : List (Str × Nat)} {fp : List Addr} (I : Inv X pins σ H s) (ok : BlkOk X.N X.env.scope scope own) (hN : X.N.Nodup) (hfp : ∀ b ∈ fp, FpOk X pins H b ∧ b < s.heap.objs.size) :
    Inv (blkH X s H scope (compEnvC scope (cellsFrom (s.heap.objs.size + 1) scope.names (cloFrom X.env.cells scope.names [])) s.heap.objs.size X.env) fp) [] (wipe σ (own.map (·.2))) H { s with heap := pushCells (s.heap.push { cls := .type "dict", data := .dict #[] }) scope.names } := by
  have J := block_start I ok hN hfp
  refine ⟨ok_blk J.ok, J.os, J.bare, J.base, J.loc, J.cell, J.free, J.freeC, fun p hp => ?_, J.hok, J.len⟩
  rw [List.append_nil] at hp
  obtain ⟨g, n, nl, nf, nc⟩ := I.pin p (List.mem_append_left _ hp)
  refine ⟨pushCells_keeps _ _ _ _ (Heap.get?_push_of_some _ g), n, ?_, fun z => (List.mem_cons.mp (I.stkSub _ z)).elim nl nf, nc⟩
  exact Nat.ne_of_lt (Heap.lt_size g)
/-- one turn behind another, until the walk ends -/
theorem loopH {Y : Cx} {R : Result → Shared → Prop} {elt tg iter : Expr} {ifs : List Expr} {scope : Scope} {pos : Pos} {it L : Addr} {fp : List Addr} {tn : Nat → Heap → Prop} {J : It} {σ : L2.St} {vs : List Nat} {g : TG} {tt : TT} {te : TE} {W : Nat → Nat → Hp → Prop} {Z : Hp → Prop}
    (c : HotC Y) (xf : ∀ e s, ¬ Y.xe e s) (T : TurnH Y.prog Y.w Y.K tg J fp it tn) (far : ∀ {H' : Hp}, (∀ b ∈ fp, H' b = none) → ∀ b ∈ fp, FpOk Y [] H' b) (pg : PG Y tg g) (pt : PTs Y ifs tt) (pe : PE Y elt te)
    (turn : ∀ i m H, W i m H → (J.stop i H ∧ Z H) ∨ (J.go i H ∧ ∃ Nx : Hp → Prop, (∀ H', Nx H' → ∃ m', m' < m ∧ W (i + 1) m' H') ∧ ∀ x H', J.yld i H x H' → g x (wipe σ vs) H' fun σ2 H2 => wipe σ2 vs = wipe σ vs ∧ tt σ2 H2 fun b H3 =>
      if b = true then te σ2 H3 fun y H4 => ∃ acc, H4 L = some (.lst acc) ∧ acc.length < sizeLine ∧ Nx (upd H4 L (.lst (acc ++ [y]))) else Nx H3))
    (leave : ∀ s' H', Inv Y [] (wipe σ vs) H' s' → Z H' → R (.ok .next) s') {m0 : Nat} {H0 : Hp} {s0 : Shared} (I0 : Inv Y [] (wipe σ vs) H0 s0) (st0 : tn 0 s0.heap) (n0 : ∀ b ∈ fp, H0 b = none) (w0 : W 0 m0 H0) :
    codeAny (model Y.prog Y.w) Y.A (.compLoop (.ListComp elt [⟨tg, iter, ifs, 0⟩] scope pos) 0 (.ref it) (.ref L) Y.env) R s0 := by
  have thnY : ∀ {α : Type} {t : Sem α} {P P' : α → Shared → Prop} {E : Value → Shared → Prop} {s : Shared}, wpAny (model Y.prog Y.w) Y.A t P Y.xe s → (∀ a s, P a s → P' a s) → wpAny (model Y.prog Y.w) Y.A t P' E s := fun h k => wpAny_mono h k fun e s z => (xf e s z).elim
  refine compLoop_any (fun n s' => ∃ i K', Inv Y [] (wipe σ vs) K' s' ∧ tn i s'.heap ∧ (∀ b ∈ fp, K' b = none) ∧ W i n K') ?_ m0 ⟨0, H0, I0, st0, n0, w0⟩
  rintro n s1 ⟨i, H1, I1, st1, n1, w1⟩
  rcases turn i n H1 w1 with ⟨ends, hZ⟩ | ⟨goes, Nx, next, step⟩
  · refine thnF (T.done Y rfl rfl rfl c i [] s1 _ H1 (fun _ _ => False) I1 (far n1) st1 ends) ?_
    rintro _ s2 ⟨rfl, I2⟩
    exact leave s2 H1 I2 hZ
  refine thnF (T.item Y rfl rfl rfl c i [] s1 _ H1 (fun _ _ => False) I1 (far n1) st1 goes) ?_
  rintro _ s2 ⟨u, rfl, h2⟩
  refine thnF h2 ?_
  rintro _ s3 ⟨x, H3, I3, rx, hy, st3, n3⟩
  have P3 := I3.pinned (far n3) (T.obj _ _ st3)
  refine thnY (pg.run _ s3 _ H3 x u _ P3 rx (step x H3 hy)) ?_
  rintro _ s4 ⟨σ4, H4, I4, wiped, q4⟩
  -- where a turn comes to its end
  have back : ∀ {s' : Shared} {H' : Hp}, Inv Y ([] ++ pinsAt fp s3.heap) σ4 H' s' → Nx H' → ∃ m, m < n ∧ ∃ i K', Inv Y [] (wipe σ vs) K' s' ∧ tn i s'.heap ∧ (∀ b ∈ fp, K' b = none) ∧ W i m K' := by
    intro s' H' I' hN
    obtain ⟨m', lt, w'⟩ := next H' hN
    have held : ∀ b ∈ fp, ∀ o, s3.heap.get? b = some o → s'.heap.get? b = some o ∧ H' b = none := fun b hb o e => by
      have z := I'.pin (b, o) (List.mem_append_right _ (List.mem_append_right _ (mem_pinsAt hb e)))
      exact ⟨z.1, z.2.1⟩
    refine ⟨m', lt, i + 1, H', Inv.weak (Inv.unpinned (pins := []) I') ?_ (fun j v e => ?_), T.keep _ _ _ st3 fun b hb o e => (held b hb o e).1, fun b hb => ?_, w'⟩
    · rw [← wiped, wipe_length]
    · rw [← wiped] at e
      exact (wipe_some e).1
    · obtain ⟨o, e, _⟩ := T.obj _ _ st3 b hb
      exact (held b hb o e).2
  refine thnY (pt.run _ s4 σ4 H4 _ I4 q4) ?_
  rintro b s5 ⟨H5, I5, q5⟩
  cases b with
  | false => exact back I5 (by simpa using q5)
  | true =>
    have q5 : te σ4 H5 fun y H6 => ∃ acc, H6 L = some (.lst acc) ∧ acc.length < sizeLine ∧ Nx (upd H6 L (.lst (acc ++ [y]))) := by simpa using q5
    refine thnY (pe.run _ s5 σ4 H5 _ I5 q5) ?_
    rintro z s6 ⟨yv, H6, I6, r6, acc, at6, lt6, nx⟩
    exact app_ok (X := Y) I6 at6 lt6 r6 fun s7 I7 => back I7 nx
/-- the making of a list, while an exception is handled -/
theorem lc_coreH {pins : List (Addr × Obj)} {s : Shared} {σ : L2.St} {H : Hp} {Q : VK} {pos' : Pos} {use : Option (Value → Sem Unit)} {Qf : Value → Shared → Prop} {elt tg iter : Expr} {ifs : List Expr} {scope : Scope} {own : List (Str × Nat)} {pos : Pos} {wi : TI} {g : TG} {tt : TT} {te : TE} (c : HotC X) (hN : X.N.Nodup) (I : Inv X pins σ H s) (hi : PIH X tg iter wi) (ok : BlkOk X.N X.env.scope scope own)
    (hg : ∀ s H C cl fp, PG (blkH X s H scope (compEnvC scope cl C X.env) fp) tg g) (ht : ∀ s H C cl fp, PTs (blkH X s H scope (compEnvC scope cl C X.env) fp) ifs tt) (he : ∀ s H C cl fp, PE (blkH X s H scope (compEnvC scope cl C X.env) fp) elt te)
    (hs : ∀ x, foldedSetIterable iter X.env x = pure x) (h : tLc wi g tt te (own.map (·.2)) σ H Q)
    (hRR : ∀ L C s' m H', Inv X pins σ H' s' → Q (.ref L) H' → s'.heap.Ns C m → FpOk X pins H' C → compPost (model X.prog X.w) X.A X.xe use Qf (.ref L) C (.ok .next) s') :
    wpAny (model X.prog X.w) X.A (comprehension (.ListComp elt [⟨tg, iter, ifs, 0⟩] scope pos) scope X.env pos' (newList []) false (eval iter X.env) use) Qf X.xe s := by
  have cells : ∀ y ∈ scope.names, y.2 = .free → ∃ c, X.env.cells.lookup y.1 = some c := fun y hy e => I.ok.has _ (ok.free y hy e)
  refine wpAny_comprehension_free (use := use) rfl hs (closure_ok cells) ok.kind (fun y hy e => (ok.uniq y hy).trans (congrArg some e)) ?_
  refine thn (hi.run pins s σ H _ I h) fun _ _ hx => thn hx ?_
  rintro _ s2 ⟨it, fp, tn, J, H2, rfl, I2, T, st2, f2, q⟩
  refine wpAny_newObj_type (newEnv_comp ?_) (Nat.zero_le _)
  generalize hL : s2.heap.objs.size = L
  have free : H2 L = none := I2.hok.fresh (Nat.le_of_eq hL)
  obtain ⟨W, ⟨m0, w0⟩, turn⟩ := q L free
  generalize h3 : ({ s2 with heap := s2.heap.push { cls := .type "list", data := .seq ([] : List Value).toArray } } : Shared) = s3
  have e3 : s3.heap = s2.heap.push { cls := .type "list", data := .seq ([] : List Value).toArray } := by rw [← h3]
  have I3 : Inv X pins σ (upd H2 L (.lst [])) s3 := by
    rw [← h3]
    refine I2.laid (t' := s2.toks) (fun b o e => Heap.get?_push_of_some _ e) (Nat.le_of_eq hL) ⟨Nat.zero_le _, [], 0, .nil, ?_⟩
    rw [← hL]
    exact Heap.get?_push_size _ rfl
  have f3 : ∀ b ∈ fp, FpOk X pins (upd H2 L (.lst [])) b ∧ b < s3.heap.objs.size := by
    intro b hb
    obtain ⟨o, e, _⟩ := T.obj _ _ st2 b hb
    have lt := Heap.lt_size e
    refine ⟨⟨?_, (f2 b hb).2⟩, ?_⟩
    · rw [upd_ne (hL ▸ Nat.ne_of_lt lt)]
      exact (f2 b hb).1
    · rw [e3, Heap.size_push]
      exact Nat.lt_succ_of_lt lt
  have st3 : tn 0 s3.heap := T.keep _ _ _ st2 fun b _ o e => by
    rw [e3]
    exact Heap.get?_push_of_some _ e
  have I4 := block_startH I3 ok hN f3
  have far : ∀ {H' : Hp}, (∀ b ∈ fp, H' b = none) → ∀ b ∈ fp, FpOk (blkH X s3 (upd H2 L (.lst [])) scope (compEnvC scope (cellsFrom (s3.heap.objs.size + 1) scope.names (cloFrom X.env.cells scope.names [])) s3.heap.objs.size X.env) fp) [] H' b := by
    intro H' n b hb
    refine ⟨n b hb, (I4.ok.exf b hb).1, I4.ok.exfs b hb, .inl hb, fun x c e => (I4.ok.exf b hb).2 x c e, fun p hp => (f3 b hb).1.2.2.2.2.2 p (List.mem_append_left _ ?_)⟩
    rw [List.append_nil] at hp
    exact hp
  have st4 := T.keep 0 s3.heap (pushCells (s3.heap.push { cls := .type "dict", data := .dict #[] }) scope.names) st3 fun b _ o e => pushCells_keeps _ _ _ _ (Heap.get?_push_of_some _ e)
  have loop := loopH (R := compPost (model X.prog X.w) X.A X.xe use Qf (.ref L) s3.heap.objs.size) (pos := pos) (iter := iter) (scope := scope) (Z := fun H' => Q (.ref L) H') (hot_blk c) (fun _ _ z => z) T far (hg _ _ _ _ _) (ht _ _ _ _ _) (he _ _ _ _ _) turn (fun s' H' I' z => ?_) I4 st4 (fun b hb => (f3 b hb).1.1) w0
  · exact codeAny_compStart_list loop (T.self X.A 0 _ _ _ st4 loop)
  · have I7 : Inv X pins σ H' s' := I3.call' (ch := fp) I'.os I'.base I'.hok I'.bare fun b hb => by
      obtain ⟨k0, k1, k2, k3, k4, k5⟩ := (f3 b hb).1
      exact ⟨k3, k1, k4, k5⟩
    obtain ⟨m, ns, _⟩ := I'.loc
    exact hRR L s3.heap.objs.size s' m H' I7 z ns (I3.fpOk (H' := H') (Nat.le_refl _) I'.free)
/-- a list comprehension, while an exception is handled -/
theorem pe_lcH {elt tg iter : Expr} {ifs : List Expr} {scope : Scope} {own : List (Str × Nat)} {pos : Pos} {wi : TI} {g : TG} {tt : TT} {te : TE} (c : HotC X) (hN : X.N.Nodup) (hi : PIH X tg iter wi) (ok : BlkOk X.N X.env.scope scope own)
    (hg : ∀ s H C cl fp, PG (blkH X s H scope (compEnvC scope cl C X.env) fp) tg g) (ht : ∀ s H C cl fp, PTs (blkH X s H scope (compEnvC scope cl C X.env) fp) ifs tt) (he : ∀ s H C cl fp, PE (blkH X s H scope (compEnvC scope cl C X.env) fp) elt te)
    (hs : ∀ x, foldedSetIterable iter X.env x = pure x) : PE X (.ListComp elt [⟨tg, iter, ifs, 0⟩] scope pos) (tLc wi g tt te (own.map (·.2))) := by
  constructor
  intro pins s σ H Q I h
  rw [eval_ListComp]
  refine lc_coreH c hN I hi ok hg ht he hs h fun L C s' m H' I' q hn f => ⟨m, hn, fun h'' sb => ?_⟩
  obtain ⟨k0, k1, k2, k3, k4, k5⟩ := f
  exact ⟨.ref L, H', I'.turned (t' := s'.toks) (fun b o hb e => (sb.2 b hb).trans e) k0 k1 k3 k4 k5, rfl, q⟩
/-- its name a local on the same line -/
theorem ps_setLcH {i : Nat} {y : Str} {py : Pos} {elt tg iter : Expr} {ifs : List Expr} {scope : Scope} {own : List (Str × Nat)} {pos spos : Pos} {wi : TI} {g : TG} {tt : TT} {te : TE} (c : HotC X) (hN : X.N.Nodup) (hy : X.N[i]? = some y) (hyl : X.env.scope.names.lookup y = some .local)
    (hsw : swapsWith (.ListComp elt [⟨tg, iter, ifs, 0⟩] scope pos) (some (.Name y py)) spos.line X.env = pure true) (hi : PIH X tg iter wi) (ok : BlkOk X.N X.env.scope scope own)
    (hg : ∀ s H C cl fp, PG (blkH X s H scope (compEnvC scope cl C X.env) fp) tg g) (ht : ∀ s H C cl fp, PTs (blkH X s H scope (compEnvC scope cl C X.env) fp) ifs tt) (he : ∀ s H C cl fp, PE (blkH X s H scope (compEnvC scope cl C X.env) fp) elt te)
    (hs : ∀ x, foldedSetIterable iter X.env x = pure x) : PS X (.Assign [.Name y py] (.ListComp elt [⟨tg, iter, ifs, 0⟩] scope pos) spos) (tAsg (tLc wi g tt te (own.map (·.2))) (gName i)) := by
  constructor
  intro pins s σ H D I h
  rw [exec_Assign_Name_used _ _ _ _ hsw]
  refine wpAny_bind (wpAny_standAt (wpAny_bind ?_))
  refine wpAny_bind (thn (lc_coreH (Qf := fun _ s' => SP X pins D .next s') c hN I hi ok hg ht he hs (show tLc wi g tt te (own.map (·.2)) σ H (fun x H1 => gName i x σ H1 D.nx) from h) fun L C s' m H' I' q hn f => ?_) fun _ s' hq => wpAny_pure (wpAny_pure hq))
  refine wpAny_assign_Name (store_ok2 (v := V.ref L) I' hN hy (.inl hyl) rfl (fun s2 I2 ⟨a, sb, ha⟩ => ?_) (.inr hyl))
  obtain ⟨f0, f1, f2, f3, f4, f5⟩ := f
  have away : C ≠ a := ha.elim (fun z => by rw [z]; exact f1) fun z e => f4 y a z e.symm
  refine ⟨m, hn.sameBut sb away, fun h3 sb3 => ?_⟩
  exact ⟨_, H', I2.turned (t' := s2.toks) (fun b o hb e => (sb3.2 b hb).trans e) f0 f1 f3 f4 f5, q⟩
/-- a list, walked there -/
theorem pi_listH {tg l : Expr} {tl : TE} (hl : PE X l tl) : PIH X tg l (fun σ H R => tl σ H fun x H1 => ∃ a, x = .ref a ∧ (∃ xs, SqL X.K H1 a xs) ∧ R (Itl X.K a) H1) := by
  constructor
  intro pins s σ H R I h
  refine thn (hl.run pins s σ H _ I h) ?_
  rintro v s1 ⟨x, H1, I1, r1, a, rfl, ⟨xs, hx⟩, q⟩
  cases r1
  obtain ⟨its, rv, p, hz⟩ := I1.list hx
  refine wpAny_pyIter_list p.isList ⟨_, [s1.heap.objs.size], _, Itl X.K a, H1, rfl, I1.kept (t' := s1.toks) fun b o q => Heap.get?_push_of_some _ q, turn_listH a _, ⟨_, Heap.get?_push_size _ rfl, rfl, rfl⟩, fun b hb => ?_, q⟩
  obtain rfl := List.mem_singleton.mp hb
  exact I1.fpOk (Nat.le_refl _) I1.fresh
/-- zip of two lists, walked there -/
theorem pi_zipH {e e2 : Expr} {ta : TA} {p pos tpos : Pos} {es : List Expr} {kk : Nat} (hg : Gl X "zip") (hm : X.mg "zip" = none) (ha : PA X [e, e2] ta) (hs : starEach [e, e2] X.env = (false, eval e X.env) :: starEach [e2] X.env) (hpl : (backTo pos (starEach [e2] X.env)).any (·.1) = false) :
    PIH X (.Tuple es kk tpos) (.Call (.Name "zip" p) [e, e2] [] pos) (iZip X.K ta) := by
  constructor
  intro pins s σ H R I h
  refine Call_ (ld_blt I hg hm PyProof.Rows.boot_zip (PyProof.Rows.callWith_type1 (thn (ha.run pos pins s σ H _ I h) ?_) hs hpl))
  rintro us s1 ⟨vs, H1, I1, r1, a, b, xs, ys, rfl, qx, qy, q⟩
  match us, r1 with
  | [_, _], .cons r (.cons r' .nil) =>
    cases r
    cases r'
    obtain ⟨its, rv, p1, _⟩ := I1.list qx
    obtain ⟨jts, rw', p2, _⟩ := I1.list qy
    refine call_zip_2 p1.isList p2.isList fun g hz hTI hTO h1 h2 hsz hk => wpAny_pyIter_zip hz ?_
    have D := PySem.W.ktu_apart s1.heap.objs.size a b p1.lt p2.lt
    refine ⟨s1.heap.objs.size + 4, [s1.heap.objs.size + 4, s1.heap.objs.size + 2, s1.heap.objs.size + 3, s1.heap.objs.size, s1.heap.objs.size + 1], _, _, H1, rfl, I1.kept (t' := s1.toks) hk, turn_zipH D (turn_zip D), ⟨hz, hTI, ⟨_, _, hTO⟩, h1, h2⟩, fun c hc => ?_, q⟩
    have le : s1.heap.objs.size ≤ c := by
      simp only [List.mem_cons, List.not_mem_nil, or_false] at hc
      rcases hc with rfl | rfl | rfl | rfl | rfl
      · exact Nat.le_add_right _ _
      · exact Nat.le_add_right _ _
      · exact Nat.le_add_right _ _
      · exact Nat.le_refl _
      · exact Nat.le_add_right _ _
    exact I1.fpOk le (I1.hok.fresh le)
end
end L2H
/-! HX3: a tuple taken apart while an exception is handled -/
namespace DLH
open PySem PySem.Spec PyProof.Rows HotX
section
variable {prog : Program} {w : World} {A : Around} {E : Value → Shared → Prop} {s : Shared}
theorem tuple_end_hot {it t x1 : Addr} {i : Nat} {xs : Array Value} {Q : Option Value → Shared → Prop} (hot : HotAt A x1 s.heap) (ne : x1 ≠ it) (hit : IsTupIter s.heap it t i) (ht : IsTup s.heap t xs) (hx : xs[i]? = none)
    (hQ : ∀ h', (∀ b o, b ≠ it → s.heap.get? b = some o → h'.get? b = some o) → Q none { s with heap := h' }) : wpAny (model prog w) A (pyNext (.ref it)) Q E s := by
  obtain ⟨oi, gi, ci, di⟩ := id hit
  obtain ⟨ot, gt, _, n, dt⟩ := ht
  unfold pyNext
  refine wpAny_bind (wpAny_attempt ?_)
  refine wpAny_callSpecial?_slot (name := Str.ofString "__next__") hit.typeIs slot_tupleiter_next ?_
  refine wpAny_call_entry slot_tupleiter_next hit.typeIs entry_tupleiter_next ?_ (args_tupleiter_next _)
  show wpAny _ _ (field (.ref it) 0 >>= _) _ _ s
  refine wpAny_bind (wpAny_field gi di (x := .ref t) rfl ?_)
  show wpAny _ _ (ite ((Value.ref t == Value.none) = true) _ _) _ _ s
  rw [if_neg (c := (Value.ref t == Value.none) = true) Bool.false_ne_true]
  show wpAny _ _ (field (.ref it) 1 >>= _) _ _ s
  refine wpAny_bind (wpAny_field gi di (x := .int i 0) rfl ?_)
  show wpAny _ _ (seqItems? (.ref t) >>= _) _ _ s
  refine wpAny_bind (wpAny_seqItems gt dt ?_)
  simp only [hx, Int.toNat_natCast]
  refine wpAny_bind (wpAny_rule (wpAny_bind (wpAny_setField gi di (by simp) ?_)))
  obtain ⟨hd, ob, fs, g1, g2, g3⟩ := hot
  refine stop_hot ⟨hd, ob, fs, ?_, g2, g3⟩ fun h' e k he => ?_
  · rw [Heap.get?_update_other _ _ ne.symm]
    exact g1
  · obtain ⟨oe, ge, ce⟩ := he
    refine wpAny_bind (wpAny_isInstance (T := "StopIteration") (b := true) ⟨oe, ge, ce⟩ isSubtype_stop ?_)
    refine wpAny_pure (hQ _ fun b o nb hb => k b o ?_)
    rw [Heap.get?_update_other _ _ (Ne.symm nb)]
    exact hb
theorem unpack_hot {t x1 : Addr} {xs : Array Value} {Q : List Value → Shared → Prop} (hot : HotAt A x1 s.heap) (ht : IsTup s.heap t xs) (hQ : ∀ h', (∀ b o, s.heap.get? b = some o → h'.get? b = some o) → Q xs.toList { s with heap := h' }) :
    wpAny (model prog w) A (unpackItems (.ref t) xs.size none) Q E s := by
  obtain ⟨ot, gt, rest⟩ := id ht
  have lt := Heap.lt_size gt
  have ne : t ≠ s.heap.objs.size := Nat.ne_of_lt lt
  have nx : x1 ≠ s.heap.objs.size := by
    obtain ⟨_, o, vs, g, _⟩ := hot
    exact Nat.ne_of_lt (Heap.lt_size g)
  unfold unpackItems
  refine wpAny_bind ?_
  unfold notIterableAtAll
  refine wpAny_bind (wpAny_specialOf ht.typeIs slot_tuple_iter.lookup (wpAny_pure ?_))
  simp only [Bool.false_eq_true, if_false]
  refine wpAny_bind (wpAny_holding (iter_tuple ht (wpAny_bind (wpAny_holding (draw_tuple ne xs.size 0 _ _ ⟨_, Heap.get?_push_size _ rfl, rfl, rfl⟩ (ht.push _) (Nat.le_of_eq (Nat.zero_add _)) fun g1 it1 s1 => ?_)))))
  rw [List.drop_zero, List.take_of_length_le (by simp), if_neg (by simp)]
  have t1 : IsTup g1 t xs := (ht.push _).extBut s1.extBut ne
  have hot1 : HotAt A x1 g1 := hot_kept hot fun o q => s1.extBut _ _ nx (Heap.get?_push_of_some _ q)
  refine wpAny_bind (wpAny_holding (tuple_end_hot hot1 nx it1 t1 (by simp) fun g2 k => ?_))
  simp only [Option.isSome_none, Bool.false_eq_true, if_false]
  refine wpAny_pure (hQ g2 fun b o hb => ?_)
  have nb : b ≠ s.heap.objs.size := Nat.ne_of_lt (Heap.lt_size hb)
  exact k b o nb (s1.extBut b o nb (Heap.get?_push_of_some _ hb))
end
end DLH
namespace L2H
open PySem PySem.Spec PyProof.Rows L2 HotX DLH
theorem pg_tupH {X : Cx} {es : List Expr} {k : Nat} {t : TGs} {n : Nat} {pos : Pos} (c : HotC X) (h : PGs X es t) (hn : (assignEach es X.env).length = n) (hst : (assignEach es X.env).findIdx? (·.1) = none) : PG X (.Tuple es k pos) (gTup X.K n t) := by
  constructor
  intro pins s σ H v u Q I r hw
  obtain ⟨a, xs, rfl, hq, hl, hw⟩ := hw
  cases r
  obtain ⟨its, rv, ht, hz⟩ := I.tuple hq
  obtain ⟨x1, hot, _⟩ := hot_at c I
  rw [PyProof.Rows.assign_Tuple]
  refine wpAny_bind (wpAny_standAt ?_)
  unfold unpack
  rw [hst, show (assignEach es X.env).length = its.toArray.size from by simp [hn, ← hl, rv.length]]
  refine wpAny_bind (wpAny_holding (unpack_hot hot ht fun g kp => ?_))
  exact h.run pins _ σ H xs _ Q (I.kept (t' := s.toks) kp) (by simpa using rv) hw
theorem turn_tupleH {P : Program} {w : World} {K : PySem.W.Frag} {tg : Expr} (a it : Addr) (T : Turn P w K tg (Itt K a) [it] it (fun i h => h.IsTupleIter it a i)) : TurnH P w K tg (Itt K a) [it] it (fun i h => h.IsTupleIter it a i) where
  mem := T.mem
  obj := T.obj
  keep := T.keep
  item := by
    rintro X rfl rfl rfl hc i pins s σ H E I hf st ⟨xs, x, hq, hx⟩
    obtain ⟨its, rv, p, _⟩ := I.tuple hq
    obtain ⟨u, hu, ru⟩ := rv.get hx
    obtain ⟨f0, f1, _, f3, f4, f5⟩ := hf it (List.mem_singleton.mpr rfl)
    refine wpAny_pyNext_tuple_item st p (x := u) (by simpa using hu) fun g st' sb => ⟨u, rfl, ?_⟩
    have J : Inv X pins σ H { s with heap := g } := I.turned (t' := s.toks) (fun b o hb e => (sb.2 b hb).trans e) f0 f1 f3 f4 f5
    obtain ⟨o, e, c, d⟩ := id st'
    refine go_of (s := { s with heap := g }) e c d (by decide) ⟨x, H, J, ru, ⟨rfl, fun ys hy => ?_⟩, st', fun b hb => (hf b hb).1⟩
    rw [I.tuple_inj hy hq]
    exact hx
  done := by
    rintro X rfl rfl rfl hc i pins s σ H E I hf st ⟨xs, hq, hx⟩
    obtain ⟨its, rv, p, _⟩ := I.tuple hq
    have fo := hf it (List.mem_singleton.mpr rfl)
    obtain ⟨x1, hot, away⟩ := hot_at hc I
    obtain ⟨f0, f1, _, f3, f4, f5⟩ := id fo
    have hl := rv.length
    refine tuple_end_hot hot (away it fo) st p (by simp; omega) fun g k => ⟨rfl, ?_⟩
    exact I.turned (t' := s.toks) (fun b o hb e => k b o hb e) f0 f1 f3 f4 f5
  self := T.self
/-- a list or a tuple, walked there -/
theorem pi_seqH {X : Cx} {tg l : Expr} {tl : TE} (hl : PE X l tl) : PIH X tg l (fun σ H R => tl σ H fun x H1 => ∃ a, x = .ref a ∧ (((∃ xs, SqL X.K H1 a xs) ∧ R (Itl X.K a) H1) ∨ ((∃ xs, SqT X.K H1 a xs) ∧ R (Itt X.K a) H1))) := by
  constructor
  intro pins s σ H R I h
  refine thn (hl.run pins s σ H _ I h) ?_
  rintro v s1 ⟨x, H1, I1, r1, a, rfl, hq⟩
  cases r1
  have kept : ∀ ob : Obj, Inv X pins σ H1 { s1 with heap := s1.heap.push ob } := fun ob => I1.kept (t' := s1.toks) fun b o q => Heap.get?_push_of_some _ q
  have ok1 : ∀ b ∈ [s1.heap.objs.size], FpOk X pins H1 b := fun b hb => by
    obtain rfl := List.mem_singleton.mp hb
    exact I1.fpOk (Nat.le_refl _) I1.fresh
  rcases hq with ⟨⟨xs, hx⟩, q⟩ | ⟨⟨xs, hx⟩, q⟩
  · obtain ⟨its, rv, p, hz⟩ := I1.list hx
    exact wpAny_pyIter_list p.isList ⟨_, [s1.heap.objs.size], _, Itl X.K a, H1, rfl, kept _, turn_listH a _, ⟨_, Heap.get?_push_size _ rfl, rfl, rfl⟩, ok1, q⟩
  · obtain ⟨its, rv, p, hz⟩ := I1.tuple hx
    exact wpAny_pyIter_tuple (items := its.toArray) p ⟨_, [s1.heap.objs.size], _, Itt X.K a, H1, rfl, kept _, turn_tupleH a _ (turn_tuple a _), ⟨_, Heap.get?_push_size _ rfl, rfl, rfl⟩, ok1, q⟩
end L2H
/-! HX4: a lambda handed to a def that tries it; exceptions whose context is None -/
namespace LX
open PySem PySem.Spec PyProof.Rows L2
/-- the context of the def that gets the lambda -/
abbrev gvX (X : Cx) (Ng : List Str) (x : Str) (sg : Scope) (g : Addr) (cdg : Value) (s : Shared) (H : Hp) : Cx := cxOf C8.CX0 X.prog X.w X.K X.mg X.base Ng x sg g cdg X.A X.stack s H C8.E0
abbrev lamQ (X : Cx) : Str := X.env.qual ++ "<lambda>"
/-- what leaves the lambda's frame -/
def lamXe (X : Cx) (A : Around) (outer : List Env) (s : Shared) (H : Hp) (E : XK) (scope : Scope) (f c' : Addr) : Value → Shared → Prop := fun e s1 =>
  let en := LamX.lamEnv X scope s.heap.objs.size f c'
  wpAny (model X.prog X.w) (A.deeper en) (leaving en e) (fun _ s2 => L2N.CX X.prog X.w outer H s E e s2) (fun e2 s2 => L2N.CX X.prog X.w outer H s E e2 s2) s1
/-- the context of the lambda's body -/
abbrev lamN (X : Cx) (A : Around) (outer : List Env) (s : Shared) (H : Hp) (E : XK) (scope : Scope) (f c' : Addr) : Cx := (LamX.lamCx X A outer s H E scope f c').wish (lamXe X A outer s H E scope f c')
theorem lamN_takes {X : Cx} {A : Around} {outer : List Env} {s : Shared} {H : Hp} {E : XK} {scope : Scope} {f c' : Addr} : L2N.Takes (lamN X A outer s H E scope f c') (fun cls d _ H' => E cls d H') := L2N.takes_of rfl rfl rfl rfl
section
variable {X : Cx} {pins : List (Addr × Obj)} {σ : L2.St} {H : Hp} {s : Shared}
/-- a(), in the def that got it -/
theorem pe_actN {Ng : List Str} {x a : Str} {sg scope : Scope} {g f c' : Addr} {cdg pm ctv : Value} {params : Arguments} {body : Expr} {k : Nat} {pn : List (Addr × Obj)} {xe : Value → Shared → Prop} {W : WX} {tb : XK → TE} {p1 p2 : Pos}
    (I : Inv X pins σ H s) (L : LamX.LamS X.env.scope scope)
    (hf : s.heap.get? f = some (PySem.W.kla_obj "<lambda>" (lamQ X) params body scope (cloFrom X.env.cells scope.names []) pm c' ctv)) (hfn : H f = none) (hfr : f ∉ frs X.stack)
    (hbind : bindArgs (PySem.W.kla_fn "<lambda>" (lamQ X) params body scope (cloFrom X.env.cells scope.names []) pm (.ref c') ctv) ⟨[], []⟩ = pure [])
    (tk : L2N.Takes ((gvX X Ng x sg g cdg s H).tr pn xe) W) (hr : Room (k + 1) (X.A.deeper (envOfC x sg s.heap.objs.size g cdg)))
    (hbody : ∀ (A : Around) (outer : List Env) (s : Shared) (H : Hp) (E : XK), Room k (A.deeper (LamX.lamEnv X scope s.heap.objs.size f c')) → PE (lamN X A outer s H E scope f c') body (tb E))
    (hN : Ng[0]? = some a) (hv : Vis sg a) (hd : (a == ("__debug__" : Str)) = false) (hcd : (a == ("__classdict__" : Str)) = false) :
    PE ((gvX X Ng x sg g cdg s H).tr pn xe) (.Call (.Name a p1) [] [] p2) (fun σZ HZ Q => σZ[0]? = some (some (.ref f)) ∧ HZ c' = some (LamX.CodeO c' (lamQ X)) ∧ tb (fun cls d H' => W cls d σZ H') σ HZ Q) := by
  constructor
  rintro pinsZ sZ σZ HZ Q IZ ⟨hs, hc, ht⟩
  refine wpAny_Call_Name_kw (thn ((pe_var (pos := p1) (i := 0) hN hv hd hcd).run pinsZ sZ σZ HZ (fun v H1 => v = .ref f ∧ H1 = HZ) IZ ⟨.ref f, hs, rfl, rfl⟩) ?_)
  rintro u s1 ⟨v, H1, I1, r1, ev, eH⟩
  subst ev
  rw [eH] at I1
  cases r1
  have of1 := I1.base.keep f _ hf hfn hfr (fun z => nomatch (show f ∈ ([] : List Addr) from z))
  refine PySem.W.callWith_F0 ⟨_, _, _, _, of1⟩ ?_
  obtain ⟨⟨oc, vs, t, hoc, hdc, hvc⟩, _, _⟩ := I1.hok c' _ hc
  have rc : codeAny (model X.prog X.w) (X.A.deeper (envOfC x sg s.heap.objs.size g cdg)) (.call (.ref f) ⟨[], []⟩) (CR (L2N.CX X.prog X.w) (envOfC x sg s.heap.objs.size g cdg :: X.stack) X.prog X.w HZ s1 Q fun cls d H' => W cls d σZ H') s1 := by
    refine PySem.W.kla_callFunE hr.depth of1 rfl L.co L.gen rfl ⟨c', oc, vs, t, rfl, hoc, hdc, hvc⟩ ?_
    rw [hbind]
    refine wpAny_pure (wpAny_newFunctionEnv (fun y hy => (L.own y hy).2) (fun y hy => absurd hy (by simp)) (fun h₁ hns hsb => ⟨I1.nolimit.fresh _ hsb, ?_⟩) L.kind)
    have kp : ∀ b o, s1.heap.get? b = some o → h₁.get? b = some o := fun b o e => hsb.extBut b o (Nat.ne_of_lt (Heap.lt_size e)) (Heap.get?_push_of_some _ e)
    have J0 := LamX.lam_start2 (E := fun cls d H' => W cls d σZ H') (f := f) (c' := c') (tk := s1.toks + ([] : List (Str × Value)).length) I L I1.env0 hr.hd (show Un (frs X.stack) [] H HZ s.heap s1.heap from I1.base) hns kp
    have J := Inv.wish J0 (lamXe X (X.A.deeper (envOfC x sg s.heap.objs.size g cdg)) (envOfC x sg s.heap.objs.size g cdg :: X.stack) s1 HZ (fun cls d H' => W cls d σZ H') scope f c')
    refine PySem.W.kla_codeExpr (wpAny_mono ((hbody _ _ s1 HZ (fun cls d H' => W cls d σZ H') (hr.deeper _)).run [] _ σ HZ Q J ht) ?_ fun _ _ z => z)
    rintro v s3 ⟨w2, H2, J2, rv, q⟩
    exact ⟨w2, H2, J2.os, J2.bare, J2.base, J2.hok, rv, q⟩
  refine wpAny_call (codeAny_mono rc fun r s2 hq => ?_)
  cases r with
  | error e => exact L2N.passAt tk σZ pinsZ HZ s1 e s2 I1 hq
  | ok fl =>
    cases fl with
    | ret u => exact I1.after hq
    | _ => exact (show False from hq).elim
end
/-- what the def makes of the lambda's reading -/
def Gives (X : Cx) (k : Nat) (Ng : List Str) (x : Str) (sg : Scope) (g : Addr) (cdg : Value) (bg : List Stmt) (a : Str) (q : Str) (TT : (XK → Hp → VK → Prop) → Hp → VK → Prop) : Prop :=
  ∀ (f c' : Addr) (s : Shared) (H : Hp) (Q : VK) (tl : XK → Hp → VK → Prop), Room k (X.A.deeper (envOfC x sg s.heap.objs.size g cdg)) →
    (∀ (W : WX) (pn : List (Addr × Obj)) (xe : Value → Shared → Prop) (p1 p2 : Pos), L2N.Takes ((gvX X Ng x sg g cdg s H).tr pn xe) W →
      PE ((gvX X Ng x sg g cdg s H).tr pn xe) (.Call (.Name a p1) [] [] p2) (fun σZ HZ Q => σZ[0]? = some (some (.ref f)) ∧ HZ c' = some (LamX.CodeO c' q) ∧ tl (fun cls d H' => W cls d σZ H') HZ Q)) →
    H c' = some (LamX.CodeO c' q) → TT tl H Q →
    ∃ t, PSs (gvX X Ng x sg g cdg s H).nox bg t ∧ t { nx := fun _ H' => Q .non H', rt := Q } (L2.start Ng [.ref f]) H
/-- x(lambda: body) -/
theorem pe_lamcallN {X : Cx} {T : List (Addr × Str)} {TT : (XK → Hp → VK → Prop) → Hp → VK → Prop} {x a : Str} {g c P : Addr} {k : Nat} {pg params : Arguments} {bg : List Stmt} {sg scope : Scope} {dV kV doc pm cdv ct oc : Value} {an od : Option Addr}
    {osl : Array (Option Value)} {Ng : List Str} {body : Expr} {t : XK → TE} {p lpos pos : Pos} (hg : Gl X x) (hm : X.mg x = some (.ref g)) (hk : PySem.W.keepIn X.K (.ref g) = true)
    (lk : X.K.lookup g = some ⟨oc, od, .func (PySem.W.fnOf x x pg bg sg dV kV doc pm an cdv ct), osl⟩) (hcg : PySem.W.codeIn X.K cdv x = true) (hb : L2.Binds X.K (PySem.W.fnOf x x pg bg sg dV kV doc pm an cdv ct) [a] [])
    (Sg : FnScope Ng [a] sg) (hNg : Ng[0]? = some a) (hva : Vis sg a) (hG : Gives X (k + 1) Ng x sg g cdv bg a (lamQ X) TT)
    (TB : LamX.TabB X.base X.mg c P) (hcode : X.env.code = .ref c) (hmT : (P, lamQ X) ∈ T) (hu : ∀ p ∈ T, p.1 = P → p.2 = lamQ X) (hr : Room (k + 2) X.A) (L : LamX.LamS X.env.scope scope)
    (hdef : defaultsOf params X.env = ([], [])) (hbind : ∀ (q : Str) (cl : List (Str × Addr)) (pm cv ctv : Value), bindArgs (PySem.W.kla_fn "<lambda>" q params body scope cl pm cv ctv) ⟨[], []⟩ = pure [])
    (hbody : ∀ (A : Around) (outer : List Env) (s : Shared) (H : Hp) (E : XK) (f c' : Addr), Room k (A.deeper (LamX.lamEnv X scope s.heap.objs.size f c')) → PE (lamN X A outer s H E scope f c') body (t E))
    (hdb : (x == ("__debug__" : Str)) = false) (hd : (a == ("__debug__" : Str)) = false) (hcd : (a == ("__classdict__" : Str)) = false) :
    PE X (.Call (.Name x p) [.Lambda params body scope lpos] [] pos) (LamX.tLam T TT t) := by
  constructor
  rintro pins s σ H Q I ⟨hT, h⟩
  refine wpAny_Call_Name_kw (ld_glob I hg hm ?_ hdb)
  refine PySem.W.callWith_K (h₀ := X.base) I.ok.mod.kin hk ?_ (by rfl) (by rfl)
  refine Calls.spliced_cons (LamX.lam_make2 I TB hcode hmT hu hT hdef (L.has I.ok) fun f c' pm' ctv H1 s1 I1 eN T1 hf hfn hfr hco => ?_)
  refine Calls.spliced_nil ⟨I1.kIn, ?_⟩
  have rc : codeAny (model X.prog X.w) X.A (.call (.ref g) ⟨[.ref f], []⟩) (CR C8.CX0 X.stack X.prog X.w H1 s1 Q C8.E0) s1 := by
    refine LamX.run_ofS (N := Ng) (ps := [a]) (us := [.ref f]) (vs := [.ref f]) lk hcg Sg hr I1.env0 (hb s1 [.ref f] I1.kIn rfl) (.cons rfl .nil) rfl fun hr1 => ?_
    obtain ⟨t1, ht, hq⟩ := hG f c' s1 H1 Q (fun E H' Q' => t E σ H' Q') hr1
      (fun W pn xe p1 p2 tk => pe_actN (tb := t) I1 L hf hfn hfr (hbind _ _ _ _ _) tk hr1 (fun A outer s H E hr2 => hbody A outer s H E f c' hr2) hNg hva hd hcd) hco (h H1 eN T1)
    exact ⟨t1, ht.nox, hq⟩
  refine wpAny_call (codeAny_mono rc fun r s2 hq => ?_)
  cases r with
  | error e => exact (show False from hq).elim
  | ok fl =>
    cases fl with
    | ret u => exact I1.after hq
    | _ => exact (show False from hq).elim
end LX
/-! HX5: sum, min, max of a list or a tuple of ints -/
namespace L2H
open PySem PySem.W PyProof.Rows L2 PySem.Spec
section
variable {X : Cx}
def rSumA (K : PySem.W.Frag) : List V → Hp → VK → Prop := fun vs H Q => ∃ (a : Addr) (ns : List Int), vs = [V.ref a] ∧ (SqL K H a (ns.map V.int) ∨ SqT K H a (ns.map V.int)) ∧ Q (.int ns.sum) H
theorem cr_sumA (hc : X.calm = true) : CallR X (.builtin "sum") (rSumA X.K) := by
  intro pins s σ H vs us Q I r h
  obtain ⟨a, ns, rfl, hs, q⟩ := h
  rcases hs with hs | hs
  · exact cr_sum hc pins s σ H _ us Q I r ⟨a, ns, rfl, hs, q⟩
  · obtain ⟨its, rv, ht, _⟩ := I.tuple hs
    rw [Vals.ref1 r]
    obtain ⟨xs, e⟩ := (Vals.ints rv).allInts.items
    have hn : numsOf (intItems xs).toList = ns := by rw [← e]; exact (Vals.ints rv).numsOf
    rw [nums_intItems] at hn
    rw [e] at ht
    refine PySem.W.ktm_sumG (I.ok.hd hc) ht fun h' tk t' hk => ?_
    rw [preSum_eq, List.take_of_length_le (by simp), hn]
    exact ⟨.int _, H, I.kept hk, ⟨_, rfl⟩, q⟩
theorem alike_ints (ns : List Int) : PySem.W.AlikeAll (ns.map PyData.int) := by
  refine ⟨fun x hx y hy => ?_, fun x hx => ?_⟩
  · obtain ⟨i, _, rfl⟩ := List.mem_map.mp hx
    obtain ⟨j, _, rfl⟩ := List.mem_map.mp hy
    simp [PySem.W.alike]
  · obtain ⟨i, _, rfl⟩ := List.mem_map.mp hx
    exact fun y => nomatch y
theorem depth_ints : ∀ ns : List Int, PyData.depthAll (ns.map PyData.int) = 0
  | [] => by simp [PyData.depthAll]
  | n :: ns => by
    have := depth_ints ns
    simp [PyData.depthAll, PyData.depth, this]
theorem dp_ints {K : PySem.W.Frag} {H : Hp} : ∀ ns : List Int, DpAll K H (ns.map V.int) (ns.map PyData.int)
  | [] => .nil
  | n :: ns => .cons (.int n) (dp_ints ns)
def rMinA (K : PySem.W.Frag) : List V → Hp → VK → Prop := fun vs H Q => ∃ (a : Addr) (ns : List Int), vs = [V.ref a] ∧ (SqL K H a (ns.map V.int) ∨ SqT K H a (ns.map V.int)) ∧ 0 < ns.length ∧ ∀ m, m ∈ ns → (∀ y, y ∈ ns → m ≤ y) → Q (.int m) H
def rMaxA (K : PySem.W.Frag) : List V → Hp → VK → Prop := fun vs H Q => ∃ (a : Addr) (ns : List Int), vs = [V.ref a] ∧ (SqL K H a (ns.map V.int) ∨ SqT K H a (ns.map V.int)) ∧ 0 < ns.length ∧ ∀ m, m ∈ ns → (∀ y, y ∈ ns → y ≤ m) → Q (.int m) H
theorem fold_min : ∀ (ns : List Int) (n : Int), ns.foldl min n ∈ n :: ns ∧ ∀ y ∈ n :: ns, ns.foldl min n ≤ y
  | [], n => by simp
  | m :: ns, n => by
    obtain ⟨h1, h2⟩ := fold_min ns (min n m)
    rw [List.foldl_cons]
    refine ⟨?_, fun y hy => ?_⟩
    · rcases List.mem_cons.mp h1 with e | e
      · rw [e]
        by_cases c : n ≤ m
        · rw [Int.min_eq_left c]; exact List.mem_cons_self
        · rw [Int.min_eq_right (by omega)]; exact List.mem_cons_of_mem _ List.mem_cons_self
      · exact List.mem_cons_of_mem _ (List.mem_cons_of_mem _ e)
    · have h0 := h2 _ List.mem_cons_self
      rcases List.mem_cons.mp hy with rfl | hy
      · omega
      · rcases List.mem_cons.mp hy with rfl | hy
        · omega
        · exact h2 y (List.mem_cons_of_mem _ hy)
theorem fold_max : ∀ (ns : List Int) (n : Int), ns.foldl max n ∈ n :: ns ∧ ∀ y ∈ n :: ns, y ≤ ns.foldl max n
  | [], n => by simp
  | m :: ns, n => by
    obtain ⟨h1, h2⟩ := fold_max ns (max n m)
    rw [List.foldl_cons]
    refine ⟨?_, fun y hy => ?_⟩
    · rcases List.mem_cons.mp h1 with e | e
      · rw [e]
        by_cases c : m ≤ n
        · rw [Int.max_eq_left c]; exact List.mem_cons_self
        · rw [Int.max_eq_right (by omega)]; exact List.mem_cons_of_mem _ List.mem_cons_self
      · exact List.mem_cons_of_mem _ (List.mem_cons_of_mem _ e)
    · have h0 := h2 _ List.mem_cons_self
      rcases List.mem_cons.mp hy with rfl | hy
      · omega
      · rcases List.mem_cons.mp hy with rfl | hy
        · omega
        · exact h2 y (List.mem_cons_of_mem _ hy)
theorem cr_minA (hc : X.calm = true) (hu : X.A.units + 1 < cLine) : CallR X (.builtin "min") (rMinA X.K) := by
  intro pins s σ H vs us Q I r h
  obtain ⟨a, ns, rfl, hs, hne, q⟩ := h
  rcases hs with hs | hs
  · exact cr_min hc pins s σ H _ us Q I r ⟨a, ns, rfl, hs, hne, q⟩
  · obtain ⟨its, rv, ht, _⟩ := I.tuple hs
    rw [Vals.ref1 r]
    cases ns with
    | nil => exact absurd hne (Nat.lt_irrefl _)
    | cons n ns =>
      obtain ⟨as, hr⟩ := Dp.readsAll I ((n :: ns).map PyData.int) _ its (dp_ints (n :: ns)) rv
      refine PySem.W.min_tuple_data (vs := its.toArray) (x := .int n) (xs := ns.map PyData.int) (I.ok.hd hc) ht (by simpa using hr) (alike_ints (n :: ns)) (by have := depth_ints (n :: ns); rw [List.map_cons] at this; rw [this]; omega) fun i v h' tk bs hv hR hk => ?_
      rw [PySem.W.minD_ints] at hR
      cases hR with
      | int =>
        obtain ⟨h1, h2⟩ := fold_min ns n
        exact ⟨.int _, H, I.kept hk, ⟨_, rfl⟩, q _ h1 h2⟩
theorem cr_maxA (hc : X.calm = true) (hu : X.A.units + 1 < cLine) : CallR X (.builtin "max") (rMaxA X.K) := by
  intro pins s σ H vs us Q I r h
  obtain ⟨a, ns, rfl, hs, hne, q⟩ := h
  rcases hs with hs | hs
  · exact cr_max hc pins s σ H _ us Q I r ⟨a, ns, rfl, hs, hne, q⟩
  · obtain ⟨its, rv, ht, _⟩ := I.tuple hs
    rw [Vals.ref1 r]
    cases ns with
    | nil => exact absurd hne (Nat.lt_irrefl _)
    | cons n ns =>
      obtain ⟨as, hr⟩ := Dp.readsAll I ((n :: ns).map PyData.int) _ its (dp_ints (n :: ns)) rv
      refine PySem.W.max_tuple_data (vs := its.toArray) (x := .int n) (xs := ns.map PyData.int) (I.ok.hd hc) ht (by simpa using hr) (alike_ints (n :: ns)) (by have := depth_ints (n :: ns); rw [List.map_cons] at this; rw [this]; omega) fun i v h' tk bs hv hR hk => ?_
      rw [PySem.W.maxD_ints] at hR
      cases hR with
      | int =>
        obtain ⟨h1, h2⟩ := fold_max ns n
        exact ⟨.int _, H, I.kept hk, ⟨_, rfl⟩, q _ h1 h2⟩
end
end L2H
/-! HX6: floor division by any number of few bits; a tuple times 1 -/
namespace L2H
open PySem PySem.Spec PyProof.Rows L2
open PySem.SeqAt
open PySem.AutoSeq1 (wpAny_loadPart')
open PySem.MeetsSeq PySem.MeetsSeq2 PySem.MeetsSeq3
def CDivA (_ j : Int) : Prop := j ≠ 0 ∧ j.natAbs.log2 < 9000
section
variable {X : Cx}
theorem op_fdivA : OpR X (binaryOp .FloorDiv) (rI CDivA fun i j => .int (i.fdiv j)) := opI fun i j _ _ _ _ _ hc q => floordiv_int hc.1 q (.inl (PyProof.noPylong_of_log2 hc.2))
theorem tuple_mul1 (l : Addr) (items : Array Value) (n : Nat) (dd : Option Addr) (sl : Array (Option Value)) (u : Tok) :
    Meets (Builtin.«tuple.__mul__» ⟨[.ref l, .int 1 u], []⟩) (fun _ R s => s.heap.get? l = some { cls := .type "tuple", dict := dd, data := .seq items n, slots := sl } ∧ R (.ok (.ret (Value.ref l))) s) :=
  .of_wp fun prog w A R s h => by
    obtain ⟨hp, g, d, tk, os⟩ := s
    obtain ⟨hl, h⟩ := h
    have f1 := AutoSeq1.idx_int
    have c1 : (items.isEmpty || (1 : Int) == 1) = true := by simp
    wp_walk using wpAny_loadPart' hl
    exact ⟨_, rfl, h⟩
def rRep1 (K : PySem.W.Frag) : R2 := fun x y H Q => ∃ l xs, x = .ref l ∧ y = .int 1 ∧ SqT K H l xs ∧ Q (.ref l) H
theorem op_rep1 : OpR X (binaryOp .Mult) (rRep1 X.K) := by
  intro pins s σ H x y v u Q I rx ry h
  obtain ⟨l, xs, rfl, rfl, hT, q⟩ := h
  cases rx
  obtain ⟨t, rfl⟩ := ry
  obtain ⟨its, r, ⟨⟨cls, dd, data, sl⟩, ho, hc, n, hd⟩, hs⟩ := I.tuple hT
  simp only at hc hd
  subst hc hd
  refine wpAny_binaryOp_repeat_ref (T := "tuple") (U := "int") (by decide) ⟨_, ho, rfl⟩ (fun s' => typeIs_int s' 1 t) noFill_tuple_mul F.fills_int_mul F.slot_int_rmul repeat_tuple F.slot_int_index.lookup
    (call_meets F.slot_int_rmul (typeIs_int s 1 t) F.entry_int_rmul (F.args_int_rmul_2 _ _) (int_rmul_tuple 1 t l its.toArray n dd sl)
      ⟨ho, rfl, ⟨_, ho, rfl⟩, call_meets F.slot_tuple_mul ⟨_, ho, rfl⟩ F.entry_tuple_mul (F.args_tuple_mul_2 _ _) (tuple_mul1 l its.toArray n dd sl t) ⟨ho, ?_⟩⟩)
  exact ⟨.ref l, H, I, rfl, q⟩
end
end L2H
/-! HX7: min and max of a list or a tuple of alike data -/
namespace L2H
open PySem PySem.W PyProof.Rows L2 PySem.Spec
section
variable {X : Cx}
theorem min_mem : ∀ (xs : List PyData) (x : PyData), minD x xs ∈ x :: xs
  | [], x => List.mem_cons_self
  | y :: xs, x => by
    have e : minD x (y :: xs) = minD (if dataLt y x then y else x) xs := rfl
    rw [e]
    have h := min_mem xs (if dataLt y x then y else x)
    rcases List.mem_cons.mp h with h | h
    · rw [h]
      split
      · exact List.mem_cons_of_mem _ List.mem_cons_self
      · exact List.mem_cons_self
    · exact List.mem_cons_of_mem _ (List.mem_cons_of_mem _ h)
theorem max_mem : ∀ (xs : List PyData) (x : PyData), maxD x xs ∈ x :: xs
  | [], x => List.mem_cons_self
  | y :: xs, x => by
    have e : maxD x (y :: xs) = maxD (if dataLt x y then y else x) xs := rfl
    rw [e]
    have h := max_mem xs (if dataLt x y then y else x)
    rcases List.mem_cons.mp h with h | h
    · rw [h]
      split
      · exact List.mem_cons_of_mem _ List.mem_cons_self
      · exact List.mem_cons_self
    · exact List.mem_cons_of_mem _ (List.mem_cons_of_mem _ h)
def rMinD (K : PySem.W.Frag) : List V → Hp → VK → Prop := fun vs H Q => ∃ (a : Addr) (ws : List V) (x : PyData) (xs : List PyData), vs = [V.ref a] ∧ (SqL K H a ws ∨ SqT K H a ws) ∧ DpAll K H ws (x :: xs) ∧ AlikeAll (x :: xs) ∧ PyData.depthAll (x :: xs) ≤ 50 ∧ ∀ (i : Nat) (v : V), ws[i]? = some v → (x :: xs)[i]? = some (minD x xs) → Q v H
def rMaxD (K : PySem.W.Frag) : List V → Hp → VK → Prop := fun vs H Q => ∃ (a : Addr) (ws : List V) (x : PyData) (xs : List PyData), vs = [V.ref a] ∧ (SqL K H a ws ∨ SqT K H a ws) ∧ DpAll K H ws (x :: xs) ∧ AlikeAll (x :: xs) ∧ PyData.depthAll (x :: xs) ≤ 50 ∧ ∀ (i : Nat) (v : V), ws[i]? = some v → (x :: xs)[i]? = some (maxD x xs) → Q v H
theorem vals_at : ∀ {ws : List V} {us : List Value}, Vals ws us → ∀ (i : Nat) (u : Value), us[i]? = some u → ∃ v, ws[i]? = some v ∧ RelV v u
  | _, _, .nil, _, _, h => by simp at h
  | _, _, .cons h t, 0, u, e => by
    cases (show some _ = some u from e)
    exact ⟨_, rfl, h⟩
  | _, _, .cons h t, i + 1, u, e => by
    obtain ⟨v, h1, h2⟩ := vals_at t i u (by simpa using e)
    exact ⟨v, by simpa using h1, h2⟩
theorem pick {its : List Value} {as : List Addr} {ws : List V} {h h' : Heap} {x m : PyData} {xs : List PyData} {bs : List Addr} {i : Nat} {v : Value} (rv : Vals ws its) (hr : ReadsAll h its (x :: xs) as) (ha : AlikeAll (x :: xs)) (hm : m ∈ x :: xs) (hv : its[i]? = some v) (hR : Reads h' v m bs) (hk : ∀ b o, h.get? b = some o → h'.get? b = some o) :
    ∃ w, ws[i]? = some w ∧ RelV w v ∧ (x :: xs)[i]? = some m := by
  obtain ⟨w, e, r⟩ := vals_at rv i v hv
  obtain ⟨cs, q1, q2, q3, _⟩ := readsAll_at hr i v hv
  have e2 := alike_unique ((x :: xs).getD i .none) m v cs bs (ha.1 _ q3 _ hm) (reads_keeps hk q1) hR
  refine ⟨w, e, r, ?_⟩
  rw [← e2, List.getD_eq_getElem?_getD, List.getElem?_eq_getElem q2]
  rfl
theorem cr_minD (hc : X.calm = true) (hu : X.A.units + 64 < cLine) : CallR X (.builtin "min") (rMinD X.K) := by
  intro pins s σ H vs us Q I r h
  obtain ⟨a, ws, x, xs, rfl, hs, hd, ha, hdep, q⟩ := h
  rw [Vals.ref1 r]
  rcases hs with hs | hs
  · obtain ⟨its, rv, ht, _⟩ := I.list hs
    obtain ⟨as, hr⟩ := Dp.readsAll I (x :: xs) _ its hd rv
    refine PySem.W.min_list_data (vs := its.toArray) (x := x) (xs := xs) (I.ok.hd hc) ht.isList (by simpa using hr) ha (by omega) fun i v h' tk bs hv hR hk => ?_
    obtain ⟨w, e1, e2, e3⟩ := pick rv hr ha (min_mem xs x) (by simpa using hv) hR hk
    exact ⟨w, H, I.kept hk, e2, q i w e1 e3⟩
  · obtain ⟨its, rv, ht, _⟩ := I.tuple hs
    obtain ⟨as, hr⟩ := Dp.readsAll I (x :: xs) _ its hd rv
    refine PySem.W.min_tuple_data (vs := its.toArray) (x := x) (xs := xs) (I.ok.hd hc) ht (by simpa using hr) ha (by omega) fun i v h' tk bs hv hR hk => ?_
    obtain ⟨w, e1, e2, e3⟩ := pick rv hr ha (min_mem xs x) (by simpa using hv) hR hk
    exact ⟨w, H, I.kept hk, e2, q i w e1 e3⟩
theorem cr_maxD (hc : X.calm = true) (hu : X.A.units + 64 < cLine) : CallR X (.builtin "max") (rMaxD X.K) := by
  intro pins s σ H vs us Q I r h
  obtain ⟨a, ws, x, xs, rfl, hs, hd, ha, hdep, q⟩ := h
  rw [Vals.ref1 r]
  rcases hs with hs | hs
  · obtain ⟨its, rv, ht, _⟩ := I.list hs
    obtain ⟨as, hr⟩ := Dp.readsAll I (x :: xs) _ its hd rv
    refine PySem.W.max_list_data (vs := its.toArray) (x := x) (xs := xs) (I.ok.hd hc) ht.isList (by simpa using hr) ha (by omega) fun i v h' tk bs hv hR hk => ?_
    obtain ⟨w, e1, e2, e3⟩ := pick rv hr ha (max_mem xs x) (by simpa using hv) hR hk
    exact ⟨w, H, I.kept hk, e2, q i w e1 e3⟩
  · obtain ⟨its, rv, ht, _⟩ := I.tuple hs
    obtain ⟨as, hr⟩ := Dp.readsAll I (x :: xs) _ its hd rv
    refine PySem.W.max_tuple_data (vs := its.toArray) (x := x) (xs := xs) (I.ok.hd hc) ht (by simpa using hr) ha (by omega) fun i v h' tk bs hv hR hk => ?_
    obtain ⟨w, e1, e2, e3⟩ := pick rv hr ha (max_mem xs x) (by simpa using hv) hR hk
    exact ⟨w, H, I.kept hk, e2, q i w e1 e3⟩
end
end L2H
/-! HX8: enumerate over a list or a tuple -/
namespace L2H
open PySem PySem.W PyProof.Rows L2 PySem.Spec
open AutoSeq1 (wpAny_loadPart')
set_option maxHeartbeats 1000000 in
theorem meets_enumerate_newB1 {v : Value} {o : Obj} {H : Heap → Prop} (B : Begins v o H) :
    Meets (Builtin.«enumerate.__new__» ⟨[.type "enumerate", v], []⟩) (fun _ R s => H s.heap ∧
      R (.ok (.ret (.ref (s.heap.push o).objs.size))) { s with heap := (s.heap.push o).push { cls := .type "enumerate", data := .fields #[.none, .bool false, .ref s.heap.objs.size, rawInt 0, .none, .none] } }) :=
  .of_wp fun prog w A R s h => by
    obtain ⟨hp, g, d, tk, os⟩ := s; obtain ⟨h1, h⟩ := h
    have hsub := sub_enumerate
    have q1 : ∀ {A' : Around} {E : Value → Shared → Prop} {Q : Value → Shared → Prop}, Q (.ref hp.objs.size) ⟨hp.push o, g, d, tk, os⟩ → wpAny (model prog w) A' (pyIter v) Q E ⟨hp, g, d, tk, os⟩ :=
      fun q => B.iter prog w _ _ ⟨hp, g, d, tk, os⟩ _ h1 q
    wp_walk using q1
    refine wpAny_stack_any fun st => wpAny_pure ?_
    split
    · rename_i c _ _ _ _ _
      cases (c == Value.type "enumerate")
      · wp_walk using q1
        exact ⟨_, rfl, h⟩
      · wp_walk using q1
        exact ⟨_, rfl, h⟩
    · wp_walk using q1
      exact ⟨_, rfl, h⟩
section
variable {prog : Program} {w : World} {A : Around} {E : Value → Shared → Prop} {s : Shared}
theorem enum_begins1 {v : Value} {o : Obj} {H : Heap → Prop} {Q : Value → Shared → Prop} (B : Begins v o H) (h1 : H s.heap)
    (h : ∀ h', IsEnum h' (s.heap.objs.size + 1) s.heap.objs.size 0 .none → h'.get? s.heap.objs.size = some o → h'.objs.size = s.heap.objs.size + 2 →
      (∀ b o, s.heap.get? b = some o → h'.get? b = some o) → Q (.ref (s.heap.objs.size + 1)) { s with heap := h' }) :
    wpAny (model prog w) A (call (.type "enumerate") [v]) Q E s := by
  refine callType_new F.called_enumerate (by decide) (F.typeCall_enumerate_1 _) (F.newCall_enumerate_1 _) (fun obj => F.args_object_init_2 obj _) F.entry_enumerate_new
    (meets_enumerate_newB1 B) ⟨h1, ?_⟩
  have hz : (s.heap.push o).objs.size = s.heap.objs.size + 1 := Heap.size_push ..
  show _ ∧ _
  rw [hz]
  have he : IsEnum ((s.heap.push o).push { cls := .type "enumerate", data := .fields #[.none, .bool false, .ref s.heap.objs.size, rawInt 0, .none, .none] }) (s.heap.objs.size + 1) s.heap.objs.size 0 .none := by
    have := Heap.get?_push_size (s.heap.push o) (o := { cls := .type "enumerate", data := .fields #[.none, .bool false, .ref s.heap.objs.size, rawInt 0, .none, .none] }) rfl
    rw [hz] at this; exact this
  refine ⟨⟨_, he, rfl⟩, h _ he (Heap.get?_push_of_some _ (Heap.get?_push_size _ B.free)) (by rw [Heap.size_push, hz]) fun b o x => Heap.get?_push_of_some _ (Heap.get?_push_of_some _ x)⟩
end
theorem enum_endT {prog : Program} {w : World} {A : Around} {E : Value → Shared → Prop} {s : Shared} {e it l : Addr} {i : Nat} {items : Array Value} {old : Value} {Q : Option Value → Shared → Prop} (hh : A.handled = none)
    (he : IsEnum s.heap e it i old) (hit : s.heap.IsTupleIter it l i) (hl : s.heap.IsTuple l items) (hx : items[i]? = none)
    (hQ : ∀ h', Heap.ExtBut it s.heap h' → Q none { s with heap := h' }) : wpAny (model prog w) A (pyNext (.ref e)) Q E s := by
  have hT : s.TypeIs (.ref e) "enumerate" := ⟨_, he, rfl⟩
  unfold pyNext
  refine wpAny_bind (wpAny_attempt (wpAny_callSpecial?_slot (name := Str.ofString "__next__") hT F.slot_enumerate_next
    (wpAny_call_entry F.slot_enumerate_next hT F.entry_enumerate_next ?_ (F.args_enumerate_next_1 _))))
  show wpAny _ _ (field (.ref e) 2 >>= _) _ _ _
  refine wpAny_bind (wpAny_field he rfl (x := .ref it) rfl ?_)
  refine wpAny_bind (wpAny_nextOf_tuple_end hh hit hl hx fun h' x he' hx' => ?_)
  obtain ⟨o, ho, hc⟩ := hx'
  refine wpAny_bind (wpAny_isInstance (T := "StopIteration") (b := true) ⟨o, ho, hc⟩ isSubtype_stop ?_)
  exact wpAny_pure (hQ _ he')
/-- the tuple at a, each item in a new pair -/
def IteT (K : PySem.W.Frag) (a : Addr) : It :=
  ⟨fun i H => ∃ (xs : List V) (x : V), SqT K H a xs ∧ xs[i]? = some x, fun i H v H' => ∃ T x, v = .ref T ∧ H T = none ∧ H' = upd H T (.tup [.int (i : Nat), x]) ∧ ∀ xs, SqT K H a xs → xs[i]? = some x, fun i H => ∃ xs : List V, SqT K H a xs ∧ xs.length ≤ i⟩
theorem tup_ne {h : Heap} {it a : Addr} {i : Nat} {items : Array Value} (st : h.IsTupleIter it a i) (ht : h.IsTuple a items) : a ≠ it := fun z => by
  obtain ⟨o, ho, hc, _⟩ := st
  obtain ⟨o', ho', hc', _⟩ := ht
  rw [z, ho] at ho'
  cases ho'
  rw [hc] at hc'
  injection hc' with hc'
  exact absurd hc' (by decide)
theorem enum_ne {h : Heap} {e it a : Addr} {k : Int} {old : Value} {items : Array Value} (he : IsEnum h e it k old) (ht : h.IsTuple a items) : e ≠ a := fun z => by
  obtain ⟨o', ho', hc', _⟩ := ht
  have he : h.get? e = some _ := he
  rw [z, ho'] at he
  cases he
  have hc' : Value.type "enumerate" = Value.type "tuple" := hc'
  injection hc' with hc'
  exact absurd hc' (by decide)
theorem turn_enumT {P : Program} {w : World} {K : PySem.W.Frag} {elts : List Expr} {kk : Nat} {tpos : Pos} (a e it : Addr) :
    Turn P w K (.Tuple elts kk tpos) (IteT K a) [e, it] e (fun i h => (∃ old, IsEnum h e it ((i : Nat) : Int) old) ∧ h.IsTupleIter it a i ∧ e ≠ it) where
  mem := by simp
  obj := fun i h st b hb => by
    obtain ⟨⟨old, he⟩, ⟨o, ho, hc, hd⟩, _⟩ := st
    have e' : b = e ∨ b = it := by simpa using hb
    rcases e' with z | z
    · rw [z]; exact ⟨_, he, fun v q => nomatch q⟩
    · rw [z]; exact ⟨o, ho, fun v q => by rw [hd] at q; cases q⟩
  keep := fun i h h' st k => let ⟨⟨old, he⟩, hi, hne⟩ := st; ⟨⟨old, k e (by simp) _ he⟩, hi.at fun o q => k it (by simp) o q, hne⟩
  item := by
    intro X hP hw hK hc i pins s σ H E I hf st hg
    subst hP hw hK
    obtain ⟨⟨old, he⟩, hit, hne⟩ := st
    obtain ⟨xs, x, hq, hx⟩ := hg
    obtain ⟨its, rv, p, hz⟩ := I.tuple hq
    have p : s.heap.IsTuple a its.toArray := p
    obtain ⟨u, hu, ru⟩ := rv.get hx
    have hel : e < s.heap.objs.size := Heap.lt_size he
    have hil : it < s.heap.objs.size := by obtain ⟨_, q, _⟩ := hit; exact Heap.lt_size q
    have hlt : i < its.toArray.size := by
      have := (List.getElem?_eq_some_iff.mp hu).1
      simpa using this
    have hai := tup_ne hit p
    have hea := enum_ne he p
    refine wpAny_pyNext_enum_itemD (Draws.tuple (A := X.A.in1) (show X.A.in1.handled = none from I.ok.hd hc) it a hai its.toArray) he ⟨hit, p⟩ hlt hne (by simp [hne, hea]) fun x' h' tk hP ho hst hT hsz hk => ?_
    have ex : x' = u := by
      have h1 : its.toArray[i]? = some x' := hP
      have h2 : its.toArray[i]? = some u := by simpa using hu
      rw [h1] at h2
      exact Option.some.inj h2
    subst ex
    refine ⟨_, rfl, wpAny_letOwnedTupleGo_enum (s := { s with heap := h', toks := tk + 1 }) ho fun h'' he' sb => ?_⟩
    have hT2 : h''.get? s.heap.objs.size = some { cls := .type "tuple", data := .seq #[.int i tk, x'] } := (sb.2 _ (Nat.ne_of_gt hel)).trans hT
    have new : ObjOk X.prog X.w (upd H s.heap.objs.size (.tup [.int (i : Nat), x])) h'' s.heap.objs.size (.tup [.int (i : Nat), x]) :=
      ⟨by show 2 ≤ sizeLine; decide, [.int i tk, x'], .cons ⟨_, rfl⟩ (.cons ru .nil), ⟨_, hT2, rfl, _, rfl⟩⟩
    have I1 : Inv X pins σ (upd H s.heap.objs.size (.tup [.int (i : Nat), x])) { s with heap := h'', toks := tk + 1 } :=
      I.turnedNew (ch := [e, it]) (fun b ob hb q => (sb.2 b (fun z => hb (by simp [z]))).trans (hk b ob (fun z => hb (by simp [z])) (fun z => hb (by simp [z])) q)) hf (Nat.le_refl _) new
    refine ⟨.ref s.heap.objs.size, _, I1, rfl, ⟨_, x, rfl, I.hok.fresh (Nat.le_refl _), rfl, fun ys hy => by rw [I.tuple_inj hy hq]; exact hx⟩, ⟨⟨x', ?_⟩, hst.1.at fun o q => (sb.2 it (Ne.symm hne)).trans q, hne⟩, fun b hb => ?_⟩
    · have e1 : ((i + 1 : Nat) : Int) = (i : Int) + 1 := by omega
      rw [e1]; exact he'
    · have hb' : b < s.heap.objs.size := by
        have e' : b = e ∨ b = it := by simpa using hb
        rcases e' with z | z
        · rw [z]; exact hel
        · rw [z]; exact hil
      rw [upd_ne (Nat.ne_of_lt hb')]
      exact (hf b hb).1
  done := by
    intro X hP hw hK hc i pins s σ H E I hf st hg
    subst hP hw hK
    obtain ⟨⟨old, he⟩, hit, hne⟩ := st
    obtain ⟨xs, hq, hx⟩ := hg
    obtain ⟨its, rv, p, hz⟩ := I.tuple hq
    have p : s.heap.IsTuple a its.toArray := p
    obtain ⟨f0, f1, f2, f3, f4, f5⟩ := hf it (by simp)
    have hl := rv.length
    refine enum_endT (I.ok.hd hc) he hit p (by simp; omega) fun h' eb => ⟨rfl, I.turned (t' := s.toks) (fun b o hb q => eb b o hb q) f0 f1 f3 f4 f5⟩
  self := fun A i s Q E st h => let ⟨⟨_, he⟩, _⟩ := st; wpAny_pyIter_enum he h
def iEnumA (K : PySem.W.Frag) (ta : TA) : TI := fun σ H R => ta σ H fun vs H1 => ∃ a, vs = [.ref a] ∧ (((∃ xs, SqL K H1 a xs) ∧ R (Ite K a) H1) ∨ ((∃ xs, SqT K H1 a xs) ∧ R (IteT K a) H1))
theorem pi_enumA {X : Cx} {e : Expr} {ta : TA} {p pos tpos : Pos} {elts : List Expr} {kk : Nat} (hg : Gl X "enumerate") (hm : X.mg "enumerate" = none) (ha : PA X [e] ta) (hs : starEach [e] X.env = [(false, eval e X.env)] := by rfl) :
    PI X (.Tuple elts kk tpos) (.Call (.Name "enumerate" p) [e] [] pos) (iEnumA X.K ta) := by
  refine ⟨fun pins s σ H R I h => ?_⟩
  refine Call_ (ld_blt I hg hm boot_enumerate (PyProof.Rows.callWith_type1 (thn (ha.run pos pins s σ H _ I h) fun us s1 ⟨vs, H1, I1, r1, q1⟩ => ?_) hs rfl))
  obtain ⟨a, ex, q⟩ := q1
  subst ex
  cases r1 with
  | cons r rr =>
    cases rr
    cases r
    have fin : ∀ b ∈ [s1.heap.objs.size + 1, s1.heap.objs.size], s1.heap.objs.size ≤ b := fun b hb => by
      have e' : b = s1.heap.objs.size + 1 ∨ b = s1.heap.objs.size := by simpa using hb
      rcases e' with z | z
      · rw [z]; exact Nat.le_add_right _ _
      · rw [z]; exact Nat.le_refl _
    rcases q with ⟨⟨xs, hq⟩, q⟩ | ⟨⟨xs, hq⟩, q⟩
    · obtain ⟨its, rv, p', hz⟩ := I1.list hq
      refine call_enumerate_list p'.isList fun h' he hit hsz hk => wpAny_pyIter_enum he ?_
      have I2 : Inv X pins σ H1 { s1 with heap := h' } := I1.kept (t' := s1.toks) hk
      refine ⟨s1.heap.objs.size + 1, [s1.heap.objs.size + 1, s1.heap.objs.size], _, _, H1, rfl, I2, turn_enum a (s1.heap.objs.size + 1) s1.heap.objs.size, ⟨⟨.none, he⟩, hit, Nat.succ_ne_self _⟩, fun b hb => ?_, q⟩
      exact I1.fpOk (fin b hb) (I1.hok.fresh (fin b hb))
    · obtain ⟨its, rv, p', hz⟩ := I1.tuple hq
      have p' : s1.heap.IsTuple a its.toArray := p'
      refine enum_begins1 (begins_tuple a its.toArray) p' fun h' he hit hsz hk => wpAny_pyIter_enum he ?_
      have I2 : Inv X pins σ H1 { s1 with heap := h' } := I1.kept (t' := s1.toks) hk
      refine ⟨s1.heap.objs.size + 1, [s1.heap.objs.size + 1, s1.heap.objs.size], _, _, H1, rfl, I2, turn_enumT a (s1.heap.objs.size + 1) s1.heap.objs.size, ⟨⟨.none, he⟩, ⟨_, hit, rfl, rfl⟩, Nat.succ_ne_self _⟩, fun b hb => ?_, q⟩
      exact I1.fpOk (fin b hb) (I1.hok.fresh (fin b hb))
end L2H
/-! DL1: plain data, draws, own syntax, its interpreter -/
namespace DL
open PySem

inductive D where
  | non | bl (b : Bool) | int (i : Int) | str (x : Str)
  | tup (xs : List D) | lst (xs : List D)
  | ref (n : Nat) | fn (k : Nat) | cls (k : Nat) | ty (n : String) | scr (ns : List Int) | exn
deriving Inhabited

/-- what a ref stands for: a list, a dict (keys ints and texts; keys tuples of them), a thing frozen, the cup of draws -/
inductive Ob where
  | lst (xs : List D) | dK (kvs : List (D × D)) | dT (kvs : List (D × D)) | fro (d : D) | cup
abbrev Mem := List Ob

/-- demonic draws -/
inductive T (α : Type) where
  | ret (a : α) | roll (n : Nat) (k : Nat → T α)
def T.bind {α β : Type} : T α → (α → T β) → T β
  | .ret a, f => f a
  | .roll n k, f => .roll n fun r => (k r).bind f
/-- whatever is drawn, Q holds at the end -/
def T.good {α : Type} : T α → (α → Prop) → Prop
  | .ret a, Q => Q a
  | .roll n k, Q => ∀ r, r < n → (k r).good Q
def allBelow (p : Nat → Bool) : Nat → Bool
  | 0 => true
  | n + 1 => allBelow p n && p n
def T.all {α : Type} : T α → (α → Bool) → Bool
  | .ret a, Q => Q a
  | .roll n k, Q => allBelow (fun r => (k r).all Q) n

inductive R (α : Type) where
  | ok (a : α) (μ : Mem) | exc (c : Nat) (xs : List D) (μ : Mem) | bad
abbrev M (α : Type) := Mem → T (R α)
def M.pure {α : Type} (a : α) : M α := fun μ => .ret (.ok a μ)
def M.bad {α : Type} : M α := fun _ => .ret .bad
def M.andThen {α β : Type} (f : α → M β) : R α → T (R β)
  | .ok a μ => f a μ
  | .exc c xs μ => .ret (.exc c xs μ)
  | .bad => .ret .bad
def M.bind {α β : Type} (m : M α) (f : α → M β) : M β := fun μ => (m μ).bind (M.andThen f)
def M.opt {α : Type} : Option α → M α
  | some a => M.pure a
  | none => M.bad
instance : Monad M where
  pure := M.pure
  bind := M.bind

/-! ### data -/
mutual
def D.py : D → Option PyData
  | .non => some .none
  | .bl b => some (.bool b)
  | .int i => some (.int i)
  | .str x => some (.str x)
  | .tup xs => match D.pys xs with
    | some ys => some (.tuple ys)
    | none => none
  | .lst xs => match D.pys xs with
    | some ys => some (.list ys)
    | none => none
  | _ => none
def D.pys : List D → Option (List PyData)
  | [] => some []
  | x :: xs => match D.py x, D.pys xs with
    | some y, some ys => some (y :: ys)
    | _, _ => none
end
def D.eqv (a b : D) : Option Bool := match a.py, b.py with
  | some x, some y => if SeqAt.shaped x && SeqAt.shaped y then some (PyData.eqv x y) else none
  | _, _ => none
def D.flat : D → Bool
  | .non | .bl _ | .int _ | .str _ => true
  | _ => false
def D.isNon : D → Bool
  | .non => true
  | _ => false
def D.eqF : D → D → Bool
  | .non, .non => true
  | .bl a, .bl b => a == b
  | .bl a, .int j => (if a then 1 else 0) == j
  | .int i, .bl b => i == (if b then 1 else 0)
  | .int i, .int j => i == j
  | .str x, .str y => decide (x = y)
  | _, _ => false

abbrev Env := List (Option D)
def get (ρ : Env) (i : Nat) : M D := match ρ[i]? with
  | some (some d) => M.pure d
  | _ => M.bad
/-- a ref to a frozen thing is the thing -/
def res (d : D) : M D := fun μ => match d with
  | .ref n => match μ[n]? with
    | some (.fro x) => .ret (.ok x μ)
    | _ => .ret (.ok d μ)
  | _ => .ret (.ok d μ)
/-- freeze -/
def frz (d : D) : M D := fun μ => match d with
  | .ref n => match μ[n]? with
    | some (.fro x) => .ret (.ok x μ)
    | some (.lst xs) => .ret (.ok (.lst xs) (μ.set n (.fro (.lst xs))))
    | _ => .ret .bad
  | _ => .ret (.ok d μ)
def alloc (o : Ob) : M D := fun μ => .ret (.ok (.ref μ.length) (μ ++ [o]))
/-- a list's or a tuple's items -/
def seqL (d : D) : M (List D) := fun μ => match d with
  | .lst xs => .ret (.ok xs μ)
  | .ref n => match μ[n]? with
    | some (.lst xs) => .ret (.ok xs μ)
    | _ => .ret .bad
  | _ => .ret .bad
def seqT (d : D) : M (List D) := match d with
  | .tup xs => M.pure xs
  | _ => M.bad
def seqA (d : D) : M (List D) := match d with
  | .tup xs => M.pure xs
  | _ => seqL d
/-- .. that stand still -/
def still (d : D) : M (List D) := match d with
  | .tup xs => M.pure xs
  | .lst xs => M.pure xs
  | _ => M.bad
def truth (d : D) : M Bool := match d with
  | .non => M.pure false
  | .bl b => M.pure b
  | .int i => M.pure (i != 0)
  | .str x => if x.length ≤ sizeLine then M.pure ((x.length : Int) != 0) else M.bad
  | .tup xs => M.pure !xs.isEmpty
  | .lst xs => M.pure !xs.isEmpty
  | .ref n => fun μ => match μ[n]? with
    | some (.lst xs) => .ret (.ok (!xs.isEmpty) μ)
    | some (.dK kvs) => .ret (.ok (!kvs.isEmpty) μ)
    | _ => .ret .bad
  | _ => M.bad

/-! ### own syntax -/
inductive Op2 where
  | add | sub | mul | fdiv | mod | pow | shl | shr | band | bor | bxor
deriving DecidableEq
inductive Cp where
  | eq | ne | lt | le | gt | ge | isN | notN | mem | nmem | isB | notB
deriving DecidableEq
inductive Bf where
  | len | abs | sum | min1 | max1 | minD | maxD | min2 | max2 | int | list | tuple | gcd | isin | all | any
deriving DecidableEq
inductive Tz where
  | nm (i : Nat) | tp (ts : Tz) | nil | cons (t ts : Tz)
deriving DecidableEq
inductive Ez where
  | non | bl (b : Bool) | int (i : Int) | str (x : Str)
  | var (i : Nat) | frz (i : Nat)
  | gfn (k : Nat) | gcon (k : Nat) | gty (n : String)
  | bin (o : Op2) (a b : Ez) | neg (a : Ez)
  | cmp (c : Cp) (a b : Ez) | chain (c c' : Cp) (a b d : Ez)
  | bool (o : BoolOp) (es : Ez) | not (a : Ez) | ife (c a b : Ez)
  | tup (es : Ez) | lst (es : Ez) | idx (a i : Ez) | slc (a : Ez) (lo hi : Ez)
  | mkl (a : Ez) | call (k : Nat) (es : Ez) | bf (f : Bf) (es : Ez)
  | lc (tg : Tz) (it cond elt : Ez)
  | range1 (a : Ez) | range2 (a b : Ez) | enum (a : Ez) | zip (a b : Ez) | zipL (a b : Ez)
  | bad | isx (a : Ez) (q : Nat) | join (s : Str) (b : Ez) | err (k : Nat) (a : Ez) | callv (i : Nat) (es : Ez)
  | dnew (t : Bool) | dget (a b : Ez) | dgetT (a es : Ez) | lrng (a b : Ez) | trng (a b : Ez)
  | rev (a : Ez) | range3 (a b c : Ez) | index (a b : Ez)
  | nil | cons (e es : Ez)
inductive Sz where
  | set (i : Nat) (e : Ez) | tset (ts : Tz) (e : Ez) | par (is : List Nat) (e : Ez)
  | setix (o i e : Ez) | dset (o i e : Ez) | dsetT (o es e : Ez) | app (o e : Ez) | raise (c : Nat) | expr (e : Ez) | ret (e : Ez) | ite (c : Ez) (a b : Sz)
  | for (tg : Tz) (it : Ez) (b : Sz) | while (n : Nat) (c : Ez) (b : Sz)
  | never | pass | brk | cont
  | nil | cons (s ss : Sz)

/-! ### operators -/
def lim : Int := 2 ^ 62
/-- operators that make a new list -/
def binopL (o : Op2) (a b : D) : M (List D) := match o with
  | .add => (seqL a).bind fun xs => (seqL b).bind fun ys => if xs.length + ys.length ≤ sizeLine then M.pure (xs ++ ys) else M.bad
  | .mul => match b with
    | .int k => (seqL a).bind fun xs => if (-(2 ^ 63) ≤ k ∧ k < 2 ^ 63) ∧ xs.length * k.toNat ≤ sizeLine then M.pure (List.replicate k.toNat xs).flatten else M.bad
    | _ => M.bad
  | _ => M.bad
def binop (o : Op2) (a b : D) : M D := match o, a, b with
  | .add, .int i, .int j => M.pure (.int (i + j))
  | .add, .tup xs, .tup ys => if xs.length + ys.length ≤ sizeLine then M.pure (.tup (xs ++ ys)) else M.bad
  | .add, .str x, .str y => if x.length + y.length ≤ sizeLine then M.pure (.str (x ++ y)) else M.bad
  | .sub, .int i, .int j => M.pure (.int (i - j))
  | .mul, .int i, .int j => if (decide (-(2 ^ 64) < i) && decide (i < 2 ^ 64)) || (decide (-(2 ^ 64) < j) && decide (j < 2 ^ 64)) then M.pure (.int (i * j)) else
      if i.natAbs.log2 + j.natAbs.log2 < 1000000 then M.pure (.int (i * j)) else M.bad
  | .mul, .tup xs, .int k => if k = 1 then M.pure (.tup xs) else if xs.isEmpty = false ∧ (2 ≤ k ∧ k ≤ 1000) ∧ xs.length ≤ 1000 then M.pure (.tup (List.replicate k.toNat xs).flatten) else M.bad
  | .fdiv, .int i, .int j => if j ≠ 0 ∧ j.natAbs < 1073741824 then M.pure (.int (i.fdiv j)) else
      if j ≠ 0 ∧ j.natAbs.log2 < 9000 then M.pure (.int (i.fdiv j)) else M.bad
  | .mod, .int i, .int j => if j ≠ 0 then M.pure (.int (i.fmod j)) else M.bad
  | .pow, .int i, .int j => if 0 ≤ j ∧ j ≤ 1000000 ∧ i.natAbs < 2 ^ 64 then M.pure (.int (i ^ j.toNat)) else M.bad
  | .shl, .int i, .int j => if 0 ≤ j ∧ j ≤ 1000000 ∧ i.natAbs < 2 ^ 64 then M.pure (.int (i * 2 ^ j.toNat)) else M.bad
  | .shr, .int i, .int j => if 0 ≤ j then M.pure (.int (i / 2 ^ j.toNat)) else M.bad
  | .band, .int i, .int j => M.pure (.int (Builtin.bitAnd i j))
  | .bor, .int i, .int j => M.pure (.int (Builtin.bitOr i j))
  | .bxor, .int i, .int j => M.pure (.int (Builtin.bitXor i j))
  | o, a, b => (binopL o a b).bind fun xs => M.pure (.lst xs)
/-- a live list, as it is now -/
def peek (d : D) : M D := fun μ => match d with
  | .ref n => match μ[n]? with
    | some (.lst xs) => .ret (.ok (.lst xs) μ)
    | some (.fro x) => .ret (.ok x μ)
    | _ => .ret .bad
  | _ => .ret (.ok d μ)
def eqvM (a b : D) (neg : Bool) : M D := match D.eqv a b with
  | some k => M.pure (.bl (if neg then !k else k))
  | none => M.bad
def cmpop (c : Cp) (a b : D) : M D := match c, a, b with
  | .eq, a, b => (peek a).bind fun x => (peek b).bind fun y => eqvM x y false
  | .ne, a, b => (peek a).bind fun x => (peek b).bind fun y => eqvM x y true
  | .lt, .int i, .int j => M.pure (.bl (decide (i < j)))
  | .le, .int i, .int j => M.pure (.bl (decide (i ≤ j)))
  | .gt, .int i, .int j => M.pure (.bl (decide (j < i)))
  | .ge, .int i, .int j => M.pure (.bl (decide (j ≤ i)))
  | .isN, a, .non => M.pure (.bl a.isNon)
  | .notN, a, .non => M.pure (.bl (!a.isNon))
  | .isB, .bl a, .bl b => M.pure (.bl (decide (a = b)))
  | .notB, .bl a, .bl b => M.pure (.bl (!decide (a = b)))
  | .mem, a, b => (seqA b).bind fun xs => if a.flat && xs.all D.flat then M.pure (.bl (xs.any fun y => D.eqF y a)) else M.bad
  | .nmem, a, b => (seqA b).bind fun xs => if a.flat && xs.all D.flat then M.pure (.bl !(xs.any fun y => D.eqF y a)) else M.bad
  | _, _, _ => M.bad
/-- the type's name, for isinstance -/
def tyName : D → Option String
  | .non => some "NoneType"
  | .bl _ => some "bool"
  | .int _ => some "int"
  | .str _ => some "str"
  | .tup _ => some "tuple"
  | .lst _ => some "list"
  | _ => none
def isTy (a n : String) : Bool := a == n || (a == "bool" && n == "int")
def tyOk (n : String) : Bool := n == "bool" || n == "int" || n == "str" || n == "tuple" || n == "list"
def intsOf : List D → Option (List Int)
  | [] => some []
  | .int i :: xs => match intsOf xs with
    | some is => some (i :: is)
    | none => none
  | _ => none
def blsOf : List D → Option (List Bool)
  | [] => some []
  | .bl i :: xs => match blsOf xs with
    | some is => some (i :: is)
    | none => none
  | _ => none
/-- the first best of alike data -/
def bestD (lt : PyData → PyData → Bool) : D → PyData → List D → List PyData → D
  | d, p, e :: es, q :: qs => if lt q p then bestD lt e q es qs else bestD lt d p es qs
  | d, _, _, _ => d
def isNo : PyData → Bool
  | .none => true
  | _ => false
def alikeL (xs : List PyData) : Bool := (xs.all fun x => xs.all fun y => PySem.W.alike x y) && (xs.all fun x => !isNo x)
def bestOf (lt : PyData → PyData → Bool) (xs : List D) : Option D := match xs, D.pys xs with
  | x :: xs, some (p :: ps) => if alikeL (p :: ps) && decide (PyData.depthAll (p :: ps) ≤ 50) then some (bestD lt x p xs ps) else none
  | _, _ => none
/-- list(x) -/
def bfL (f : Bf) (as : List D) : M (List D) := match f, as with
  | .list, [.scr ns] => M.pure (ns.map D.int)
  | .list, [a] => seqA a
  | _, _ => M.bad
def bfop (f : Bf) (as : List D) : M D := match f, as with
  | .len, [a] => (seqA a).bind fun xs => M.pure (.int xs.length)
  | .abs, [.int i] => M.pure (.int (if i < 0 then -i else i))
  | .int, [.int i] => M.pure (.int i)
  | .min2, [.int i, .int j] => M.pure (.int (if j < i then j else i))
  | .max2, [.int i, .int j] => M.pure (.int (if j > i then j else i))
  | .gcd, [.int i, .int j] => M.pure (.int ((Nat.gcd i.natAbs j.natAbs : Nat) : Int))
  | .sum, [a] => (seqA a).bind fun xs => (M.opt (intsOf xs)).bind fun is => M.pure (.int is.sum)
  | .min1, [a] => (seqA a).bind fun xs => (M.opt (intsOf xs)).bind fun is => (M.opt is.min?).bind fun i => M.pure (.int i)
  | .max1, [a] => (seqA a).bind fun xs => (M.opt (intsOf xs)).bind fun is => (M.opt is.max?).bind fun i => M.pure (.int i)
  | .minD, [a] => (seqA a).bind fun xs => M.opt (bestOf (fun y a => PySem.W.dataLt y a) xs)
  | .maxD, [a] => (seqA a).bind fun xs => M.opt (bestOf (fun y a => PySem.W.dataLt a y) xs)
  | .all, [a] => (seqL a).bind fun xs => (M.opt (blsOf xs)).bind fun is => M.pure (.bl (is.all id))
  | .any, [a] => (seqL a).bind fun xs => (M.opt (blsOf xs)).bind fun is => M.pure (.bl (is.any id))
  | .tuple, [a] => (seqA a).bind fun xs => M.pure (.tup xs)
  | .isin, [a, .ty n] => match tyName a with
    | some t => if tyOk n then M.pure (.bl (isTy t n)) else M.bad
    | none => M.bad
  | .list, as => (bfL .list as).bind fun xs => M.pure (.lst xs)
  | _, _ => M.bad
def idxop (a b : D) : M D := match b with
  | .int i => (seqA a).bind fun xs => M.opt (L2.atI xs i)
  | _ => M.bad
def part (d : Option D) : Option (Option Int) := match d with
  | none => some none
  | some (.int i) => some (some i)
  | _ => none
def cut (xs : List D) (lo hi : Option Int) : List D := (xs.drop (HT.sIx xs.length 0 lo)).take (HT.sIx xs.length xs.length hi - HT.sIx xs.length 0 lo)

/-! ### targets -/
mutual
def bindT : Tz → D → Env → Option Env
  | .nm i, d, ρ => if i < ρ.length then some (ρ.set i (some d)) else none
  | .tp ts, d, ρ => match d with
    | .tup xs => bindTs ts xs ρ
    | _ => none
  | .nil, _, _ => none
  | .cons _ _, _, _ => none
def bindTs : Tz → List D → Env → Option Env
  | .nil, [], ρ => some ρ
  | .cons t ts, d :: ds, ρ => match bindT t d ρ with
    | some ρ' => bindTs ts ds ρ'
    | none => none
  | _, _, _ => none
end
def Tz.slots : Tz → List Nat
  | .nm i => [i]
  | .tp ts => ts.slots
  | .nil => []
  | .cons t ts => t.slots ++ ts.slots
def wipeE (ρ : Env) : List Nat → Env
  | [] => ρ
  | i :: is => (wipeE ρ is).set i none

/-! ### the interpreter -/
def lcGo (ds : List D) (f : D → M (Option D)) : M (List D) := match ds with
  | [] => M.pure []
  | d :: ds => (f d).bind fun r => (lcGo ds f).bind fun rs => M.pure (match r with
    | some e => e :: rs
    | none => rs)
/-- no exception leaves -/
def calmR {α : Type} : R α → T (R α)
  | .ok a μ' => .ret (.ok a μ')
  | _ => .ret .bad
def calmM {α : Type} (m : M α) : M α := fun μ => (m μ).bind calmR
/-- what a piece of syntax is worth: as an expression, a test, written items, what is walked, a part of a slice, a chain of and | or (as a value, as a test), a new list -/
structure Fn where
  e : Env → M D
  t : Env → M Bool
  es : Env → M (List D)
  i : Env → M (List D)
  p : Env → M (Option Int)
  b : BoolOp → Env → M D
  bt : BoolOp → Env → M Bool
  l : Env → M (List D)
  nil : Bool
def asInt : D → M (Option Int)
  | .int i => M.pure (some i)
  | _ => M.bad
def Fn.ofE (f : Env → M D) : Fn where
  e := f
  t := fun ρ => (f ρ).bind truth
  es := fun _ => M.bad
  i := fun ρ => (f ρ).bind still
  p := fun ρ => (f ρ).bind asInt
  b := fun _ _ => M.bad
  bt := fun _ _ => M.bad
  l := fun _ => M.bad
  nil := false
def Fn.ofL (f : Env → M (List D)) : Fn := { Fn.ofE (fun ρ => (f ρ).bind fun xs => M.pure (.lst xs)) with l := f }
def Fn.ofI (f : Env → M (List D)) : Fn := { Fn.ofE (fun _ => M.bad) with i := f }
def negop : D → M D
  | .int i => M.pure (.int (-i))
  | _ => M.bad
def chainop (c' : Cp) (y : D) (z : M D) : D → M D
  | .bl true => z.bind fun z => cmpop c' y z
  | .bl false => M.pure (.bl false)
  | _ => M.bad
def slcop (l h : Option Int) (x : D) : M D := match x with
  | .tup xs => M.pure (.tup (cut xs l h))
  | _ => (seqL x).bind fun xs => M.pure (.lst (cut xs l h))
def lenOk (xs : List D) : M (List D) := if xs.length ≤ sizeLine then M.pure xs else M.bad
def boolV (o : BoolOp) (k : Bool) (x : D) (rest : M D) : M D := match o, k with
  | .And, true => rest
  | .And, false => M.pure x
  | .Or, true => M.pure x
  | .Or, false => rest
def boolT (o : BoolOp) (k : Bool) (rest : M Bool) : M Bool := match o, k with
  | .And, true => rest
  | .And, false => M.pure false
  | .Or, true => M.pure true
  | .Or, false => rest
def rng1 : D → M (List D)
  | .int n => if -lim ≤ n ∧ n < lim then M.pure ((List.range n.toNat).map fun (i : Nat) => D.int (i : Int)) else M.bad
  | _ => M.bad
def rng2 : D → D → M (List D)
  | .int i, .int j => if (-lim ≤ i ∧ i < lim) ∧ (-lim ≤ j ∧ j < lim) then M.pure ((List.range (j - i).toNat).map fun (k : Nat) => D.int (i + (k : Int))) else M.bad
  | _, _ => M.bad
/-- how many items range(i, j, c) has -/
def rngN (i j c : Int) : Nat := if c = -1 then (i - j).toNat else (Builtin.Range.rangeSize i j c).toNat
def rng3ok (i j c : Int) : Bool := decide (c = -1) || (decide (c ≠ 0) && decide (c.natAbs < 1073741824) && Builtin.Range.small i j c && decide (0 ≤ Builtin.Range.rangeSize i j c))
def rng3 : D → D → D → M (List D)
  | .int i, .int j, .int c => if ((-lim ≤ i ∧ i < lim) ∧ (-lim ≤ j ∧ j < lim)) ∧ rng3ok i j c = true then M.pure ((List.range (rngN i j c)).map fun (k : Nat) => D.int (i + (k : Int) * c)) else M.bad
  | _, _, _ => M.bad
/-- xs.index(y), flat -/
def indexop (x y : D) : M D := (seqL x).bind fun xs => if y.flat && xs.all D.flat then (M.opt (xs.findIdx? fun z => D.eqF z y)).bind fun j => M.pure (.int (j : Nat)) else M.bad
def enumD (xs : List D) : List D := xs.zipIdx.map fun p => .tup [.int p.2, p.1]
def enumop : D → M (List D)
  | .lst xs => M.pure (enumD xs)
  | .tup xs => M.pure (enumD xs)
  | _ => M.bad
def zipD (xs ys : List D) : List D := (xs.zip ys).map fun p => .tup [p.1, p.2]
def zipop : D → D → M (List D)
  | .lst xs, .lst ys => M.pure (zipD xs ys)
  | .tup xs, .tup ys => M.pure (zipD xs ys)
  | _, _ => M.bad
def ziplop : D → D → M (List D)
  | .lst xs, .lst ys => M.pure (zipD xs ys)
  | _, _ => M.bad
def lcTurn (tg : Tz) (cond : Env → M Bool) (elt : Env → M D) (ρ : Env) (d : D) : M (Option D) := calmM ((M.opt (bindT tg d (wipeE ρ tg.slots))).bind fun ρ' => (cond ρ').bind fun k => if k = true then (elt ρ').bind fun x => M.pure (some x) else M.pure none)
/-- the slot of K that tells which exception is handled -/
def xk : Nat := 100000
/-- is the handled exception of the class q? -/
def isxop (K : Nat → D) (q : Nat) : D → M D
  | .exn => match K xk with
    | .int c => M.pure (.bl (c == (q : Int)))
    | _ => M.bad
  | _ => M.bad
def strsOf : List D → Option (List Str)
  | [] => some []
  | .str x :: xs => match strsOf xs with
    | some ys => some (x :: ys)
    | none => none
  | _ => none
def joinop (a : Str) (d : D) : M D := (seqA d).bind fun xs => (M.opt (strsOf xs)).bind fun ys => if (ys.map (·.length)).sum + ys.length * a.length ≤ 16777216 then M.pure (.str (Txt.join a ys)) else M.bad
mutual
/-- no ref from n on -/
def D.noRef (n : Nat) : D → Bool
  | .ref k => Nat.blt k n
  | .exn => false
  | .tup xs => D.noRefs n xs
  | .lst xs => D.noRefs n xs
  | _ => true
def D.noRefs (n : Nat) : List D → Bool
  | [] => true
  | x :: xs => D.noRef n x && D.noRefs n xs
end
def Ob.noRef (n : Nat) : Ob → Bool
  | .lst xs => D.noRefs n xs
  | .fro d => d.noRef n
  | .cup => true
  | .dK kvs => kvs.all fun p => p.1.noRef n && p.2.noRef n
  | .dT kvs => kvs.all fun p => p.1.noRef n && p.2.noRef n
/-- the end of a try's def: a text; all that was made is let go -/
def errEnd (n : Nat) : R D → T (R D)
  | .ok (.str x) μ => if (μ.take n).all (Ob.noRef n) then .ret (.ok (.str x) (μ.take n)) else .ret .bad
  | _ => .ret .bad
/-- what is made of what the try's call did: f [] behind its end, f [.int c] behind an exception of the class c; what was made is let go -/
def errM (m : M D) (f : List D → M D) : M D := fun μ => (m μ).bind fun r => match r with
  | .ok _ μ' => (f [] μ').bind (errEnd μ.length)
  | .exc c [] μ' => (f [.int c] μ').bind (errEnd μ.length)
  | _ => .ret .bad
def callvop (C : Nat → List D → M D) (as : M (List D)) : D → M D
  | .fn k => as.bind (C k)
  | _ => M.bad
/-- a key of a dict: ints, texts; tuples of them -/
def keyOf : D → Option L2.Key
  | .int i => some (.inl i)
  | .str x => some (.inr x)
  | _ => none
def keysOf : List D → Option (List L2.Key)
  | [] => some []
  | d :: ds => match keyOf d, keysOf ds with
    | some k, some ks => some (k :: ks)
    | _, _ => none
def hasT (ks : List L2.Key) (p : D × D) : Bool := match p.1 with
  | .tup ds => decide (keysOf ds = some ks)
  | _ => false
def hasK (k : L2.Key) (p : D × D) : Bool := decide (keyOf p.1 = some k)
def getD (f : D × D → Bool) (kvs : List (D × D)) : Option D := (kvs.find? f).map (·.2)
def putD (f : D × D → Bool) (kvs : List (D × D)) (d v : D) : List (D × D) := if kvs.any f = true then kvs.map (fun p => if f p = true then (p.1, v) else p) else kvs ++ [(d, v)]
/-- d[k] -/
def getTo (kvs : List (D × D)) (ds : List D) : Option D := (keysOf ds).bind fun ks => getD (hasT ks) kvs
def getKo (kvs : List (D × D)) (k : D) : Option D := (keyOf k).bind fun q => getD (hasK q) kvs
def dgetop (o k : D) : M D := fun μ => match o with
  | .ref n => match μ[n]? with
    | some (.dT kvs) => match k with
      | .tup ds => M.opt (getTo kvs ds) μ
      | _ => .ret .bad
    | some (.dK kvs) => M.opt (getKo kvs k) μ
    | _ => .ret .bad
  | _ => .ret .bad
/-- d[k], k no tuple -/
def notTup : D → Bool
  | .tup _ => false
  | _ => true
def dgetK (o k : D) : M D := if notTup k = true then dgetop o k else M.bad
section
variable (C : Nat → List D → M D) (K : Nat → D)
def ev : Ez → Fn
  | .non => .ofE fun _ => M.pure .non
  | .bl b => .ofE fun _ => M.pure (.bl b)
  | .int i => .ofE fun _ => M.pure (.int i)
  | .str x => .ofE fun _ => M.pure (.str x)
  | .var i => .ofE fun ρ => (get ρ i).bind res
  | .frz i => .ofE fun ρ => (get ρ i).bind frz
  | .gfn k => .ofE fun _ => M.pure (.fn k)
  | .gcon k => .ofE fun _ => M.pure (K k)
  | .gty n => .ofE fun _ => M.pure (.ty n)
  | .bin o a b =>
    let A := ev a
    let B := ev b
    { Fn.ofE (fun ρ => (A.e ρ).bind fun x => (B.e ρ).bind fun y => binop o x y) with
      l := fun ρ => (A.e ρ).bind fun x => (B.e ρ).bind fun y => binopL o x y }
  | .neg a =>
    let A := ev a
    .ofE fun ρ => (A.e ρ).bind negop
  | .cmp c a b =>
    let A := ev a
    let B := ev b
    .ofE fun ρ => (A.e ρ).bind fun x => (B.e ρ).bind fun y => cmpop c x y
  | .chain c c' a b d =>
    let A := ev a
    let B := ev b
    let D := ev d
    .ofE fun ρ => (A.e ρ).bind fun x => (B.e ρ).bind fun y => (cmpop c x y).bind (chainop c' y (D.e ρ))
  | .bool o es =>
    let A := ev es
    { Fn.ofE (A.b o) with t := A.bt o }
  | .not a =>
    let A := ev a
    { Fn.ofE (fun ρ => (A.e ρ).bind fun x => (truth x).bind fun k => M.pure (.bl !k)) with
      t := fun ρ => (A.t ρ).bind fun k => M.pure !k }
  | .ife c a b =>
    let P := ev c
    let A := ev a
    let B := ev b
    .ofE fun ρ => (P.t ρ).bind fun k => if k = true then A.e ρ else B.e ρ
  | .tup es =>
    let A := ev es
    .ofE fun ρ => (A.es ρ).bind fun xs => (lenOk xs).bind fun xs => M.pure (.tup xs)
  | .lst es =>
    let A := ev es
    .ofL fun ρ => (A.es ρ).bind lenOk
  | .idx a i =>
    let A := ev a
    let B := ev i
    .ofE fun ρ => (A.e ρ).bind fun x => (B.e ρ).bind fun y => idxop x y
  | .slc a lo hi =>
    let A := ev a
    let L := ev lo
    let U := ev hi
    { Fn.ofE (fun ρ => (A.e ρ).bind fun x => (L.p ρ).bind fun l => (U.p ρ).bind fun h => slcop l h x) with
      l := fun ρ => (A.e ρ).bind fun x => (L.p ρ).bind fun l => (U.p ρ).bind fun h => (seqL x).bind fun xs => M.pure (cut xs l h) }
  | .mkl a =>
    let A := ev a
    .ofE fun ρ => (A.l ρ).bind fun xs => alloc (.lst xs)
  | .call k es =>
    let A := ev es
    .ofE fun ρ => (A.es ρ).bind (C k)
  | .bf f es =>
    let A := ev es
    { Fn.ofE (fun ρ => (A.es ρ).bind (bfop f)) with l := fun ρ => (A.es ρ).bind (bfL f) }
  | .lc tg it cond elt =>
    let I := ev it
    let P := ev cond
    let A := ev elt
    .ofL fun ρ => (I.i ρ).bind fun ds => (lenOk ds).bind fun ds => lcGo ds (lcTurn tg P.t A.e ρ)
  | .range1 a =>
    let A := ev a
    .ofI fun ρ => (A.e ρ).bind rng1
  | .range2 a b =>
    let A := ev a
    let B := ev b
    .ofI fun ρ => (A.e ρ).bind fun x => (B.e ρ).bind fun y => rng2 x y
  | .enum a =>
    let A := ev a
    .ofI fun ρ => (A.e ρ).bind enumop
  | .zip a b =>
    let A := ev a
    let B := ev b
    .ofI fun ρ => (A.e ρ).bind fun x => (B.e ρ).bind fun y => zipop x y
  | .zipL a b =>
    let A := ev a
    let B := ev b
    .ofI fun ρ => (A.e ρ).bind fun x => (B.e ρ).bind fun y => ziplop x y
  | .bad => .ofE fun _ => M.bad
  | .isx a q =>
    let A := ev a
    .ofE fun ρ => (A.e ρ).bind (isxop K q)
  | .join s b =>
    let B := ev b
    .ofE fun ρ => (B.e ρ).bind (joinop s)
  | .err k a =>
    let A := ev a
    .ofE fun ρ => errM (A.e ρ) (C k)
  | .callv i es =>
    let A := ev es
    .ofE fun ρ => (get ρ i).bind (callvop C (A.es ρ))
  | .dnew t => .ofE fun _ => alloc (if t then .dT [] else .dK [])
  | .dget a b =>
    let A := ev a
    let B := ev b
    .ofE fun ρ => (A.e ρ).bind fun x => (B.e ρ).bind fun y => dgetK x y
  | .dgetT a es =>
    let A := ev a
    let B := ev es
    .ofE fun ρ => (A.e ρ).bind fun x => (B.es ρ).bind fun ds => (lenOk ds).bind fun ds => dgetop x (.tup ds)
  | .lrng a b =>
    let A := ev a
    let B := ev b
    .ofL fun ρ => (A.e ρ).bind fun x => (B.e ρ).bind fun y => (rng2 x y).bind lenOk
  | .trng a b =>
    let A := ev a
    let B := ev b
    .ofE fun ρ => (A.e ρ).bind fun x => (B.e ρ).bind fun y => (rng2 x y).bind fun xs => (lenOk xs).bind fun xs => M.pure (.tup xs)
  | .rev a =>
    let A := ev a
    .ofL fun ρ => (A.e ρ).bind fun x => (seqL x).bind fun xs => M.pure xs.reverse
  | .range3 a b c =>
    let A := ev a
    let B := ev b
    let E := ev c
    .ofI fun ρ => (A.e ρ).bind fun x => (B.e ρ).bind fun y => (E.e ρ).bind fun w => rng3 x y w
  | .index a b =>
    let A := ev a
    let B := ev b
    .ofE fun ρ => (A.e ρ).bind fun x => (seqL x).bind fun _ => (B.e ρ).bind fun y => indexop x y
  | .nil => { Fn.ofE (fun _ => M.bad) with
      t := fun _ => M.pure true
      es := fun _ => M.pure []
      p := fun _ => M.pure none
      nil := true }
  | .cons e es =>
    let A := ev e
    let B := ev es
    { Fn.ofE (fun _ => M.bad) with
      t := fun _ => M.bad
      es := fun ρ => (A.e ρ).bind fun x => (B.es ρ).bind fun xs => M.pure (x :: xs)
      p := fun _ => M.bad
      b := fun o ρ => if B.nil then A.e ρ else (A.e ρ).bind fun x => (truth x).bind fun k => boolV o k x (B.b o ρ)
      bt := fun o ρ => if B.nil then A.t ρ else (A.t ρ).bind fun k => boolT o k (B.bt o ρ) }
/-- a statement's ends -/
inductive Out where
  | nx (ρ : Env) | rt (d : D) | bk (ρ : Env) | ct (ρ : Env)
def forGo (tg : Tz) (b : Env → M Out) : List D → Env → M Out
  | [], ρ => M.pure (.nx ρ)
  | d :: ds, ρ => (M.opt (bindT tg d ρ)).bind fun ρ' => (b ρ').bind fun o => match o with
    | .nx ρ1 => forGo tg b ds ρ1
    | .ct ρ1 => forGo tg b ds ρ1
    | .bk ρ1 => M.pure (.nx ρ1)
    | .rt d => M.pure (.rt d)
def whileGo (c : Env → M Bool) (b : Env → M Out) : Nat → Env → M Out
  | 0, _ => M.bad
  | n + 1, ρ => (c ρ).bind fun k => if k = true then (b ρ).bind fun o => match o with
      | .nx ρ1 => whileGo c b n ρ1
      | .ct ρ1 => whileGo c b n ρ1
      | .bk ρ1 => M.pure (.nx ρ1)
      | .rt d => M.pure (.rt d)
    else M.pure (.nx ρ)
def setE (ρ : Env) (i : Nat) (d : D) : M Out := if i < ρ.length then M.pure (.nx (ρ.set i (some d))) else M.bad
/-- o[i] = x, of a list -/
def storeL (o i x : D) : M Unit := fun μ => match o, i with
  | .ref n, .int k => match μ[n]? with
    | some (.lst xs) => match L2.ixN xs.length k with
      | some j => .ret (.ok () (μ.set n (.lst (xs.set j x))))
      | none => .ret .bad
    | _ => .ret .bad
  | _, _ => .ret .bad
/-- o[i] = x, of a dict -/
def putTo (kvs : List (D × D)) (ds : List D) (x : D) : Option Ob := (keysOf ds).bind fun ks => if kvs.length < sizeLine then some (.dT (putD (hasT ks) kvs (.tup ds) x)) else none
def putKo (kvs : List (D × D)) (k x : D) : Option Ob := (keyOf k).bind fun q => if kvs.length < sizeLine then some (.dK (putD (hasK q) kvs k x)) else none
def setOb (n : Nat) : Option Ob → M Unit
  | some o => fun μ => .ret (.ok () (μ.set n o))
  | none => M.bad
def storeD (o k x : D) : M Unit := fun μ => match o with
  | .ref n => match μ[n]? with
    | some (.dT kvs) => match k with
      | .tup ds => setOb n (putTo kvs ds x) μ
      | _ => .ret .bad
    | some (.dK kvs) => setOb n (putKo kvs k x) μ
    | _ => .ret .bad
  | _ => .ret .bad
def storeK (o k x : D) : M Unit := if notTup k = true then storeD o k x else M.bad
/-- o.append(x) -/
def appL (o x : D) : M Unit := fun μ => match o with
  | .ref n => match μ[n]? with
    | some (.lst xs) => if xs.length < sizeLine then .ret (.ok () (μ.set n (.lst (xs ++ [x])))) else .ret .bad
    | _ => .ret .bad
  | _ => .ret .bad
def throwM {α : Type} (c : Nat) : M α := fun μ => .ret (.exc c [] μ)
def setAll : List (Nat × D) → Env → Option Env
  | [], ρ => some ρ
  | (i, d) :: r, ρ => if i < ρ.length then setAll r (ρ.set i (some d)) else none
/-- names that are stored from the right -/
def setPar (is : List Nat) (d : D) (ρ : Env) : Option Env := match d with
  | .tup xs => if xs.length = is.length then setAll (is.zip xs).reverse ρ else none
  | _ => none
def evS : Sz → Env → M Out
  | .set i e, ρ => ((ev C K e).e ρ).bind fun d => setE ρ i d
  | .tset ts e, ρ => ((ev C K e).e ρ).bind fun d => (M.opt (bindT (.tp ts) d ρ)).bind fun ρ' => M.pure (.nx ρ')
  | .par is e, ρ => ((ev C K e).e ρ).bind fun d => (M.opt (setPar is d ρ)).bind fun ρ' => M.pure (.nx ρ')
  | .setix o i e, ρ => ((ev C K e).e ρ).bind fun x => ((ev C K o).e ρ).bind fun y => ((ev C K i).e ρ).bind fun k => (storeL y k x).bind fun _ => M.pure (.nx ρ)
  | .dset o i e, ρ => ((ev C K e).e ρ).bind fun x => ((ev C K o).e ρ).bind fun y => ((ev C K i).e ρ).bind fun k => (storeK y k x).bind fun _ => M.pure (.nx ρ)
  | .dsetT o es e, ρ => ((ev C K e).e ρ).bind fun x => ((ev C K o).e ρ).bind fun y => ((ev C K es).es ρ).bind fun ds => (lenOk ds).bind fun ds => (storeD y (.tup ds) x).bind fun _ => M.pure (.nx ρ)
  | .app o e, ρ => ((ev C K o).e ρ).bind fun y => (seqL y).bind fun _ => ((ev C K e).e ρ).bind fun x => (appL y x).bind fun _ => M.pure (.nx ρ)
  | .raise c, _ => throwM c
  | .expr e, ρ => ((ev C K e).e ρ).bind fun _ => M.pure (.nx ρ)
  | .ret e, ρ => ((ev C K e).e ρ).bind fun d => M.pure (.rt d)
  | .ite c a b, ρ => ((ev C K c).t ρ).bind fun k => if k = true then evS a ρ else evS b ρ
  | .for tg it b, ρ => ((ev C K it).i ρ).bind fun ds => forGo tg (evS b) ds ρ
  | .while n c b, ρ => whileGo (ev C K c).t (evS b) n ρ
  | .never, _ => M.bad
  | .pass, ρ => M.pure (.nx ρ)
  | .brk, ρ => M.pure (.bk ρ)
  | .cont, ρ => M.pure (.ct ρ)
  | .nil, ρ => M.pure (.nx ρ)
  | .cons s ss, ρ => (evS s ρ).bind fun o => match o with
    | .nx ρ1 => evS ss ρ1
    | o => M.pure o
/-- a def's body, entered -/
def run (n : Nat) (b : Sz) (as : List D) : M D := (evS C K b (as.map some ++ List.replicate (n - as.length) none)).bind fun o => match o with
  | .nx _ => M.pure .non
  | .rt d => M.pure d
  | _ => M.bad
end
/-- what was made and is not told is let go -/
def popM (m : M D) : M D := fun μ => (m μ).bind fun r => match r with
  | .ok a μ' => if a.noRef μ.length && (μ'.take μ.length).all (Ob.noRef μ.length) then .ret (.ok a (μ'.take μ.length)) else .ret (.ok a μ')
  | .exc c xs μ' => .ret (.exc c xs μ')
  | .bad => .ret .bad
/-- a def: how many names, how many parameters, its body -/
structure Df where
  names : Nat
  pars : Nat
  body : Sz
/-- the prims: what is not by the text -/
def callF (K : Nat → D) (defs : List Df) (prim : Nat → Option (List D → M D)) : Nat → Nat → List D → M D
  | 0, _, _ => M.bad
  | n + 1, k, as => match prim k with
    | some f => f as
    | none => match defs[k]? with
      | some d => if as.length = d.pars then popM (run (callF K defs prim n) K d.names d.body as) else M.bad
      | none => M.bad
end DL
/-! DL2: worlds: how plain data lie in the abstract heap; what a run is worth in a world -/
namespace DL
open PySem PySem.Spec PyProof.Rows L2

/-- what stands fixed: the program, the world, the written part, where defs and classes stand -/
structure Gx where
  P : Program
  w : World
  K : PySem.W.Frag
  mg : Str → Option Value
  base : Heap
  fa : Nat → Addr
  ca : Nat → Addr
  T : List (Addr × Str)
  xa : Option Addr
  nf : Nat

/-- a world: the addresses of the refs, what they hold, the abstract heap -/
structure Wd where
  m : List Addr
  μ : Mem
  H : Hp
def live (μ : Mem) (i : Nat) : Prop := match μ[i]? with
  | some (.fro _) => False
  | some _ => True
  | none => False
def Wd.lv (W : Wd) (b : Addr) : Prop := ∃ i, live W.μ i ∧ W.m[i]? = some b
open Classical in
/-- the part of the heap that stands still: not what refs hold, not what is being made at z -/
noncomputable def Wd.F (z : List Addr) (W : Wd) : Hp := fun b => if b ∈ z ∨ W.lv b then none else W.H b
theorem Wd.F_some {z : List Addr} {W : Wd} {b : Addr} {o : HO} (h : W.F z b = some o) : W.H b = some o ∧ b ∉ z ∧ ¬ W.lv b := by
  unfold Wd.F at h
  split at h
  · cases h
  · rename_i q
    exact ⟨h, fun hz => q (.inl hz), fun hz => q (.inr hz)⟩
theorem Wd.F_of {z : List Addr} {W : Wd} {b : Addr} {o : HO} (h : W.H b = some o) (hz : b ∉ z) (hl : ¬ W.lv b) : W.F z b = some o := by
  unfold Wd.F
  rw [if_neg (fun q => q.elim hz hl)]
  exact h

def Ext (F F' : Hp) : Prop := ∀ b o, F b = some o → (∀ ps, o ≠ .tbl ps) → F' b = some o
theorem Ext.refl (F : Hp) : Ext F F := fun _ _ h _ => h
theorem Ext.trans {F F1 F2 : Hp} (a : Ext F F1) (b : Ext F1 F2) : Ext F F2 := fun c o h n => b c o (a c o h n) n
theorem Ext.sqT {K : PySem.W.Frag} {F F' : Hp} {a : Addr} {vs : List V} (e : Ext F F') (h : SqT K F a vs) : SqT K F' a vs := by
  rcases h with (h | ⟨o, h⟩) | h
  · exact .inl (.inl (e _ _ h (fun _ q => nomatch q)))
  · exact .inl (.inr ⟨o, e _ _ h (fun _ q => nomatch q)⟩)
  · exact .inr h
theorem Ext.sqL {K : PySem.W.Frag} {F F' : Hp} {a : Addr} {vs : List V} (e : Ext F F') (h : SqL K F a vs) : SqL K F' a vs := by
  rcases h with (h | ⟨o, h⟩) | h
  · exact .inl (.inl (e _ _ h (fun _ q => nomatch q)))
  · exact .inl (.inr ⟨o, e _ _ h (fun _ q => nomatch q)⟩)
  · exact .inr h
theorem sqL_sub {K : PySem.W.Frag} {F H : Hp} {a : Addr} {vs : List V} (e : ∀ b o, F b = some o → H b = some o) (h : SqL K F a vs) : SqL K H a vs := by
  rcases h with (h | ⟨o, h⟩) | h
  · exact .inl (.inl (e _ _ h))
  · exact .inl (.inr ⟨o, e _ _ h⟩)
  · exact .inr h
theorem sqT_sub {K : PySem.W.Frag} {F H : Hp} {a : Addr} {vs : List V} (e : ∀ b o, F b = some o → H b = some o) (h : SqT K F a vs) : SqT K H a vs := by
  rcases h with (h | ⟨o, h⟩) | h
  · exact .inl (.inl (e _ _ h))
  · exact .inl (.inr ⟨o, e _ _ h⟩)
  · exact .inr h

mutual
/-- the value v lies in F as the datum d -/
inductive Rp (G : Gx) (F : Hp) (m : List Addr) : D → V → Prop
  | non : Rp G F m .non .non
  | bl (b : Bool) : Rp G F m (.bl b) (.bl b)
  | int (i : Int) : Rp G F m (.int i) (.int i)
  | str (x : Str) : Rp G F m (.str x) (.str x)
  | tup {a : Addr} {vs : List V} {ds : List D} (h : SqT G.K F a vs) (r : Rps G F m ds vs) : Rp G F m (.tup ds) (.ref a)
  | lst {a : Addr} {vs : List V} {ds : List D} (h : F a = some (.lst vs)) (r : Rps G F m ds vs) : Rp G F m (.lst ds) (.ref a)
  | ref {n : Nat} {a : Addr} (h : m[n]? = some a) : Rp G F m (.ref n) (.ref a)
  | fn (k : Nat) (h : k < G.nf) : Rp G F m (.fn k) (.ref (G.fa k))
  | cls (k : Nat) : Rp G F m (.cls k) (.ref (G.ca k))
  | ty (n : String) : Rp G F m (.ty n) (.ty n)
  | scr {a : Addr} {ns : List Int} (h : SqL G.K F a (ns.map V.int)) : Rp G F m (.scr ns) (.ref a)
  | exn {a : Addr} (h : G.xa = some a) : Rp G F m .exn (.ref a)
inductive Rps (G : Gx) (F : Hp) (m : List Addr) : List D → List V → Prop
  | nil : Rps G F m [] []
  | cons {d : D} {v : V} {ds : List D} {vs : List V} (h : Rp G F m d v) (t : Rps G F m ds vs) : Rps G F m (d :: ds) (v :: vs)
end
section
variable {G : Gx} {F F' : Hp} {m m' : List Addr}
mutual
theorem Rp.mono (e : Ext F F') (hm : ∀ (i : Nat) (a : Addr), m[i]? = some a → m'[i]? = some a) : ∀ {d : D} {v : V}, Rp G F m d v → Rp G F' m' d v
  | _, _, .non => .non
  | _, _, .bl b => .bl b
  | _, _, .int i => .int i
  | _, _, .str x => .str x
  | _, _, .tup h r => .tup (e.sqT h) (Rps.mono e hm r)
  | _, _, .lst h r => .lst (e _ _ h (fun _ q => nomatch q)) (Rps.mono e hm r)
  | _, _, .ref h => .ref (hm _ _ h)
  | _, _, .fn k h => .fn k h
  | _, _, .cls k => .cls k
  | _, _, .ty n => .ty n
  | _, _, .scr h => .scr (e.sqL h)
  | _, _, .exn h => .exn h
theorem Rps.mono (e : Ext F F') (hm : ∀ (i : Nat) (a : Addr), m[i]? = some a → m'[i]? = some a) : ∀ {ds : List D} {vs : List V}, Rps G F m ds vs → Rps G F' m' ds vs
  | _, _, .nil => .nil
  | _, _, .cons h t => .cons (Rp.mono e hm h) (Rps.mono e hm t)
end
theorem Rps.len : ∀ {ds : List D} {vs : List V}, Rps G F m ds vs → ds.length = vs.length
  | _, _, .nil => rfl
  | _, _, .cons _ t => by rw [List.length_cons, List.length_cons, t.len]
theorem Rps.get : ∀ {ds : List D} {vs : List V}, Rps G F m ds vs → ∀ {i : Nat} {d : D}, ds[i]? = some d → ∃ v, vs[i]? = some v ∧ Rp G F m d v
  | _, _, .nil, i, d, e => by simp at e
  | _, _, .cons h t, 0, d, e => by
    simp at e
    subst e
    exact ⟨_, rfl, h⟩
  | _, _, .cons h t, i + 1, d, e => by
    obtain ⟨v, h1, h2⟩ := t.get (i := i) (d := d) (by simpa using e)
    exact ⟨v, by simpa using h1, h2⟩
theorem Rps.getV : ∀ {ds : List D} {vs : List V}, Rps G F m ds vs → ∀ {i : Nat} {v : V}, vs[i]? = some v → ∃ d, ds[i]? = some d ∧ Rp G F m d v
  | _, _, .nil, i, d, e => by simp at e
  | _, _, .cons h t, 0, d, e => by
    simp at e
    subst e
    exact ⟨_, rfl, h⟩
  | _, _, .cons h t, i + 1, d, e => by
    obtain ⟨v, h1, h2⟩ := t.getV (i := i) (v := d) (by simpa using e)
    exact ⟨v, by simpa using h1, h2⟩
theorem Rps.append : ∀ {ds es : List D} {vs us : List V}, Rps G F m ds vs → Rps G F m es us → Rps G F m (ds ++ es) (vs ++ us)
  | _, _, _, _, .nil, s => s
  | _, _, _, _, .cons h t, s => .cons h (t.append s)
theorem Rps.take : ∀ {ds : List D} {vs : List V} (n : Nat), Rps G F m ds vs → Rps G F m (ds.take n) (vs.take n)
  | _, _, 0, _ => by simp; exact .nil
  | _, _, n + 1, .nil => by simp; exact .nil
  | _, _, n + 1, .cons h t => by simp; exact .cons h (t.take n)
theorem Rps.drop : ∀ {ds : List D} {vs : List V} (n : Nat), Rps G F m ds vs → Rps G F m (ds.drop n) (vs.drop n)
  | _, _, 0, r => by simpa using r
  | _, _, n + 1, .nil => by simp; exact .nil
  | _, _, n + 1, .cons h t => by simpa using t.drop n
theorem Rps.rep {ds : List D} {vs : List V} (r : Rps G F m ds vs) : ∀ k : Nat, Rps G F m (List.replicate k ds).flatten (List.replicate k vs).flatten
  | 0 => by simp; exact .nil
  | k + 1 => by
    rw [List.replicate_succ, List.replicate_succ, List.flatten_cons, List.flatten_cons]
    exact r.append (r.rep k)
theorem Rps.set {d : D} {v : V} (h : Rp G F m d v) : ∀ {ds : List D} {vs : List V} (i : Nat), Rps G F m ds vs → Rps G F m (ds.set i d) (vs.set i v)
  | _, _, _, .nil => by simp; exact .nil
  | _, _, 0, .cons _ t => by simp; exact .cons h t
  | _, _, i + 1, .cons q t => by simp; exact .cons q (Rps.set h i t)
end

def fields : List D → Option (List (Str × D)) := fun _ => none
/-- what a ref holds -/
def ObR (G : Gx) (F : Hp) (m : List Addr) (H : Hp) (a : Addr) : Ob → Prop
  | .lst xs => ∃ vs, H a = some (.lst vs) ∧ Rps G F m xs vs
  | .dK kvs => ∃ ks : List (Key × V), H a = some (.dK ks) ∧ Paired (fun (p : D × D) (q : Key × V) => Rp G F m p.1 (kV q.1) ∧ Rp G F m p.2 q.2) kvs ks
  | .dT kvs => ∃ ks : List (List Key × V), H a = some (.dT ks) ∧ Paired (fun (p : D × D) (q : List Key × V) => (∃ ds, p.1 = .tup ds ∧ Rps G F m ds (q.1.map kV)) ∧ Rp G F m p.2 q.2) kvs ks
  | .fro d => Rp G F m d (.ref a)
  | .cup => ∃ x y : Int, H a = some (.lst [.int x, .int y]) ∧ 0 ≤ x ∧ 0 ≤ y ∧ y < 2 ^ 32
structure Mok (G : Gx) (z : List Addr) (W : Wd) : Prop where
  len : W.m.length = W.μ.length
  inj : ∀ (i j : Nat) (a : Addr), live W.μ i → live W.μ j → W.m[i]? = some a → W.m[j]? = some a → i = j
  zl : ∀ b ∈ z, ¬ W.lv b
  zs : ∀ b ∈ z, ∃ vs, W.H b = some (.lst vs)
  tabs : LamX.Tabs G.T W.H
  ob : ∀ (i : Nat) (a : Addr) (o : Ob), W.m[i]? = some a → W.μ[i]? = some o → ObR G (W.F z) W.m W.H a o
/-- from one world to a later one -/
structure Le (z : List Addr) (W W' : Wd) : Prop where
  pre : ∀ (i : Nat) (a : Addr), W.m[i]? = some a → W'.m[i]? = some a
  ext : Ext (W.F z) (W'.F z)
  zk : ∀ b ∈ z, W'.H b = W.H b
theorem Le.refl (z : List Addr) (W : Wd) : Le z W W := ⟨fun _ _ h => h, Ext.refl _, fun _ _ => rfl⟩
theorem Le.trans {z : List Addr} {W W1 W2 : Wd} (a : Le z W W1) (b : Le z W1 W2) : Le z W W2 := ⟨fun i c h => b.pre i c (a.pre i c h), a.ext.trans b.ext, fun c h => (b.zk c h).trans (a.zk c h)⟩
abbrev RpW (G : Gx) (z : List Addr) (W : Wd) (d : D) (v : V) : Prop := Rp G (W.F z) W.m d v
abbrev RpsW (G : Gx) (z : List Addr) (W : Wd) (d : List D) (v : List V) : Prop := Rps G (W.F z) W.m d v
theorem Rp.le {G : Gx} {z : List Addr} {W W' : Wd} {d : D} {v : V} (h : RpW G z W d v) (l : Le z W W') : RpW G z W' d v := Rp.mono l.ext l.pre h
theorem Rps.le {G : Gx} {z : List Addr} {W W' : Wd} {d : List D} {v : List V} (h : RpsW G z W d v) (l : Le z W W') : RpsW G z W' d v := Rps.mono l.ext l.pre h
/-- names and slots -/
structure EnvR (G : Gx) (z : List Addr) (W : Wd) (ρ : Env) (σ : L2.St) : Prop where
  len : ρ.length = σ.length
  at_ : ∀ (i : Nat) (d : D), ρ[i]? = some (some d) → ∃ v, σ[i]? = some (some v) ∧ RpW G z W d v
theorem EnvR.le {G : Gx} {z : List Addr} {W W' : Wd} {ρ : Env} {σ : L2.St} (h : EnvR G z W ρ σ) (l : Le z W W') : EnvR G z W' ρ σ :=
  ⟨h.len, fun i d e => let ⟨v, h1, h2⟩ := h.at_ i d e; ⟨v, h1, h2.le l⟩⟩
theorem EnvR.set {G : Gx} {z : List Addr} {W : Wd} {ρ : Env} {σ : L2.St} {d : D} {v : V} (h : EnvR G z W ρ σ) (r : RpW G z W d v) (i : Nat) : EnvR G z W (ρ.set i (some d)) (σ.set i (some v)) := by
  refine ⟨by rw [List.length_set, List.length_set, h.len], fun j e hj => ?_⟩
  by_cases hij : i = j
  · subst hij
    by_cases hl : i < ρ.length
    · rw [List.getElem?_set_self hl] at hj
      cases hj
      exact ⟨v, List.getElem?_set_self (by rw [← h.len]; exact hl), r⟩
    · rw [List.getElem?_eq_none (by rw [List.length_set]; omega)] at hj
      cases hj
  · rw [List.getElem?_set_ne hij] at hj ⊢
    exact h.at_ j e hj
theorem EnvR.unset {G : Gx} {z : List Addr} {W : Wd} {ρ : Env} {σ : L2.St} (h : EnvR G z W ρ σ) (i : Nat) : EnvR G z W (ρ.set i none) (σ.set i none) := by
  refine ⟨by rw [List.length_set, List.length_set, h.len], fun j e hj => ?_⟩
  by_cases hij : i = j
  · subst hij
    by_cases hl : i < ρ.length
    · rw [List.getElem?_set_self hl] at hj
      cases hj
    · rw [List.getElem?_eq_none (by rw [List.length_set]; omega)] at hj
      cases hj
  · rw [List.getElem?_set_ne hij] at hj ⊢
    exact h.at_ j e hj
theorem EnvR.wipe {G : Gx} {z : List Addr} {W : Wd} {ρ : Env} {σ : L2.St} (h : EnvR G z W ρ σ) : ∀ is : List Nat, EnvR G z W (wipeE ρ is) (L2.wipe σ is)
  | [] => h
  | i :: is => (h.wipe is).unset i
theorem wipeE_len (ρ : Env) : ∀ is : List Nat, (wipeE ρ is).length = ρ.length
  | [] => rfl
  | i :: is => by
    show ((wipeE ρ is).set i none).length = _
    rw [List.length_set, wipeE_len ρ is]

/-- an object that is no table and no code object -/
def plainO (u : HO) : Prop := (∀ ps, u ≠ .tbl ps) ∧ ∀ f, u ≠ .ext f
theorem plain_lst {vs : List V} : plainO (.lst vs) := ⟨fun _ q => (nomatch q), fun _ q => (nomatch q)⟩
theorem plain_dK {vs : List (Key × V)} : plainO (.dK vs) := ⟨fun _ q => (nomatch q), fun _ q => (nomatch q)⟩
theorem plain_dT {vs : List (List Key × V)} : plainO (.dT vs) := ⟨fun _ q => (nomatch q), fun _ q => (nomatch q)⟩
theorem tabs_keep {T : List (Addr × Str)} {H H' : Hp} (t : LamX.Tabs T H) (h : ∀ b u, H b = some u → ¬ plainO u → H' b = some u) : LamX.Tabs T H' := fun p hp => by
  obtain ⟨ps, h1, h2, h3⟩ := t p hp
  refine ⟨ps, h _ _ h1 (fun q => q.1 ps rfl), h2, fun pos cv hc => ?_⟩
  obtain ⟨c, e1, e2⟩ := h3 pos cv hc
  exact ⟨c, e1, h _ _ e2 (fun q => q.2 _ rfl)⟩
theorem tabs_upd {T : List (Addr × Str)} {H : Hp} {a : Addr} {o u : HO} (t : LamX.Tabs T H) (ha : H a = some o) (ho : plainO o) : LamX.Tabs T (upd H a u) := tabs_keep t fun b v e n => by
  rw [upd_ne fun q => n (by rw [q, ha] at e; cases e; exact ho)]
  exact e
theorem tabs_new {T : List (Addr × Str)} {H : Hp} {a : Addr} {u : HO} (t : LamX.Tabs T H) (ha : H a = none) : LamX.Tabs T (upd H a u) := tabs_keep t fun b v e n => by
  rw [upd_ne (ne_of_none e ha)]
  exact e
/-! ### worlds change -/
section
variable {G : Gx} {z : List Addr} {W : Wd} {p : Addr} {o : HO}
theorem Mok.nz (k : Mok G z W) (h : W.H p = none) : p ∉ z := fun hz => by
  obtain ⟨o, e⟩ := k.zs p hz
  rw [h] at e
  cases e
theorem Mok.thereP (k : Mok G z W) {i : Nat} {a : Addr} (hl : live W.μ i) (hm : W.m[i]? = some a) : ∃ o, W.H a = some o ∧ plainO o := by
  unfold live at hl
  cases e : W.μ[i]? with
  | none =>
    rw [e] at hl
    exact hl.elim
  | some o =>
    have r := k.ob i a o hm e
    cases o with
    | lst xs => obtain ⟨vs, h, _⟩ := r; exact ⟨_, h, plain_lst⟩
    | dK xs => obtain ⟨vs, h, _⟩ := r; exact ⟨_, h, plain_dK⟩
    | dT xs => obtain ⟨vs, h, _⟩ := r; exact ⟨_, h, plain_dT⟩
    | cup => obtain ⟨x, y, h, _⟩ := r; exact ⟨_, h, plain_lst⟩
    | fro d =>
      rw [e] at hl
      exact hl.elim
theorem Mok.there (k : Mok G z W) {i : Nat} {a : Addr} (hl : live W.μ i) (hm : W.m[i]? = some a) : ∃ o, W.H a = some o := by
  unfold live at hl
  cases e : W.μ[i]? with
  | none =>
    rw [e] at hl
    exact hl.elim
  | some o =>
    have r := k.ob i a o hm e
    cases o with
    | lst xs => obtain ⟨vs, h, _⟩ := r; exact ⟨_, h⟩
    | dK xs => obtain ⟨vs, h, _⟩ := r; exact ⟨_, h⟩
    | dT xs => obtain ⟨vs, h, _⟩ := r; exact ⟨_, h⟩
    | cup => obtain ⟨x, y, h, _⟩ := r; exact ⟨_, h⟩
    | fro d =>
      rw [e] at hl
      exact hl.elim
theorem Mok.nlv (k : Mok G z W) (h : W.H p = none) : ¬ W.lv p := fun ⟨i, hl, hm⟩ => by
  obtain ⟨o, e⟩ := k.there hl hm
  rw [h] at e
  cases e
theorem ObR.mono {F F' H H' : Hp} {m m' : List Addr} {a : Addr} {ob : Ob} (e : Ext F F') (hm : ∀ (i : Nat) (a : Addr), m[i]? = some a → m'[i]? = some a)
    (hh : (∀ d, ob ≠ .fro d) → ∀ o, H a = some o → H' a = some o) (h : ObR G F m H a ob) : ObR G F' m' H' a ob := by
  cases ob with
  | lst xs => obtain ⟨vs, h1, h2⟩ := h; exact ⟨vs, hh (fun _ q => nomatch q) _ h1, h2.mono e hm⟩
  | dK xs =>
    obtain ⟨vs, h1, h2⟩ := h
    exact ⟨vs, hh (fun _ q => nomatch q) _ h1, Paired.mapP h2 fun a b r => ⟨r.1.mono e hm, r.2.mono e hm⟩⟩
  | dT xs =>
    obtain ⟨vs, h1, h2⟩ := h
    exact ⟨vs, hh (fun _ q => nomatch q) _ h1, Paired.mapP h2 fun a b r => ⟨let ⟨ds, e1, e2⟩ := r.1; ⟨ds, e1, e2.mono e hm⟩, r.2.mono e hm⟩⟩
  | fro d => exact Rp.mono e hm h
  | cup => obtain ⟨x, y, h1, h2⟩ := h; exact ⟨x, y, hh (fun _ q => nomatch q) _ h1, h2⟩
/-- a new object that nothing will change -/
theorem Mok.new (k : Mok G z W) (h : W.H p = none) : Mok G z ⟨W.m, W.μ, upd W.H p o⟩ ∧ Le z W ⟨W.m, W.μ, upd W.H p o⟩ ∧ Wd.F z ⟨W.m, W.μ, upd W.H p o⟩ p = some o := by
  have nz := k.nz h
  have nl := k.nlv h
  have ext : Ext (W.F z) (Wd.F z ⟨W.m, W.μ, upd W.H p o⟩) := fun b u e n => by
    obtain ⟨h1, h2, h3⟩ := Wd.F_some e
    exact Wd.F_of (by show upd W.H p o b = _; rw [upd_ne (ne_of_none h1 h)]; exact h1) h2 h3
  refine ⟨⟨k.len, k.inj, k.zl, fun b hb => ?_, tabs_new k.tabs h, fun i a ob h1 h2 => ?_⟩, ⟨fun _ _ q => q, ext, fun b hb => ?_⟩, Wd.F_of upd_same nz nl⟩
  · obtain ⟨u, e⟩ := k.zs b hb
    exact ⟨u, by show upd W.H p o b = _; rw [upd_ne (ne_of_none e h)]; exact e⟩
  · refine (k.ob i a ob h1 h2).mono ext (fun _ _ q => q) fun _ u e => ?_
    show upd W.H p o a = _
    rw [upd_ne (ne_of_none e h)]
    exact e
  · show upd W.H p o b = _
    rw [upd_ne (fun e => nz (by rw [← e]; exact hb))]
theorem live_app {μ : Mem} {ob : Ob} {i : Nat} : live (μ ++ [ob]) i ↔ live μ i ∨ (i = μ.length ∧ ∀ d, ob ≠ .fro d) := by
  unfold live
  by_cases h : i < μ.length
  · rw [List.getElem?_append_left h]
    constructor
    · exact fun q => .inl q
    · rintro (q | ⟨e, _⟩)
      · exact q
      · omega
  · by_cases e : i = μ.length
    · subst e
      rw [List.getElem?_append_right (Nat.le_refl _), Nat.sub_self]
      have hn : μ[μ.length]? = none := List.getElem?_eq_none (Nat.le_refl _)
      rw [hn]
      cases ob <;> simp
    · have h1 : (μ ++ [ob])[i]? = none := List.getElem?_eq_none (by rw [List.length_append]; simp; omega)
      have h2 : μ[i]? = none := List.getElem?_eq_none (by omega)
      rw [h1, h2]
      simp [e]
/-- a new object that a ref holds -/
theorem Mok.newRef {ob : Ob} (k : Mok G z W) (h : W.H p = none) (hf : ∀ d, ob ≠ .fro d)
    (hob : ∀ F, Ext (W.F z) F → ObR G F (W.m ++ [p]) (upd W.H p o) p ob) :
    Mok G z ⟨W.m ++ [p], W.μ ++ [ob], upd W.H p o⟩ ∧ Le z W ⟨W.m ++ [p], W.μ ++ [ob], upd W.H p o⟩ ∧ (W.m ++ [p])[W.μ.length]? = some p := by
  have nz := k.nz h
  have nl := k.nlv h
  have hpre : ∀ (i : Nat) (a : Addr), W.m[i]? = some a → (W.m ++ [p])[i]? = some a := fun i a e => by
    have hi : i < W.m.length := (List.getElem?_eq_some_iff.mp e).1
    rw [List.getElem?_append_left hi]
    exact e
  have lvi : ∀ b, Wd.lv ⟨W.m ++ [p], W.μ ++ [ob], upd W.H p o⟩ b → W.lv b ∨ b = p := fun b ⟨i, hl, hm⟩ => by
    rcases live_app.mp hl with q | ⟨e, _⟩
    · have hi : i < W.m.length := by
        rw [k.len]
        unfold live at q
        cases e : W.μ[i]? with
        | none => rw [e] at q; exact q.elim
        | some _ => exact (List.getElem?_eq_some_iff.mp e).1
      refine .inl ⟨i, q, ?_⟩
      have hm' : (W.m ++ [p])[i]? = some b := hm
      rw [List.getElem?_append_left hi] at hm'
      exact hm'
    · subst e
      have hm' : (W.m ++ [p])[W.μ.length]? = some b := hm
      rw [← k.len, List.getElem?_append_right (Nat.le_refl _), Nat.sub_self] at hm'
      exact .inr (Option.some.inj hm').symm
  have ext : Ext (W.F z) (Wd.F z ⟨W.m ++ [p], W.μ ++ [ob], upd W.H p o⟩) := fun b u e n => by
    obtain ⟨h1, h2, h3⟩ := Wd.F_some e
    have nb : b ≠ p := ne_of_none h1 h
    exact Wd.F_of (by show upd W.H p o b = _; rw [upd_ne nb]; exact h1) h2 fun q => (lvi b q).elim h3 nb
  have lastm : (W.m ++ [p])[W.μ.length]? = some p := by rw [← k.len, List.getElem?_append_right (Nat.le_refl _), Nat.sub_self]; rfl
  refine ⟨⟨?_, fun i j a hi hj h1 h2 => ?_, fun b hb q => ?_, fun b hb => ?_, tabs_new k.tabs h, fun i a ob' h1 h2 => ?_⟩, ⟨hpre, ext, fun b hb => ?_⟩, lastm⟩
  · show (W.m ++ [p]).length = (W.μ ++ [ob]).length
    rw [List.length_append, List.length_append, k.len]
    rfl
  · have key : ∀ i a, live (W.μ ++ [ob]) i → (W.m ++ [p])[i]? = some a → (live W.μ i ∧ W.m[i]? = some a) ∨ (i = W.μ.length ∧ a = p) := fun i a hi h1 => by
      rcases live_app.mp hi with q | ⟨e, _⟩
      · have hi : i < W.m.length := by
          rw [k.len]
          unfold live at q
          cases e : W.μ[i]? with
          | none => rw [e] at q; exact q.elim
          | some _ => exact (List.getElem?_eq_some_iff.mp e).1
        rw [List.getElem?_append_left hi] at h1
        exact .inl ⟨q, h1⟩
      · subst e
        rw [lastm] at h1
        exact .inr ⟨rfl, (Option.some.inj h1).symm⟩
    rcases key i a hi h1 with ⟨a1, a2⟩ | ⟨a1, a2⟩ <;> rcases key j a hj h2 with ⟨b1, b2⟩ | ⟨b1, b2⟩
    · exact k.inj i j a a1 b1 a2 b2
    · subst b2
      exact absurd ⟨i, a1, a2⟩ nl
    · subst a2
      exact absurd ⟨j, b1, b2⟩ nl
    · rw [a1, b1]
  · rcases lvi b q with q | q
    · exact k.zl b hb q
    · exact nz (q ▸ hb)
  · obtain ⟨u, e⟩ := k.zs b hb
    exact ⟨u, by show upd W.H p o b = _; rw [upd_ne (ne_of_none e h)]; exact e⟩
  · by_cases hi : i < W.μ.length
    · have h1' : W.m[i]? = some a := by
        have h1 : (W.m ++ [p])[i]? = some a := h1
        rw [List.getElem?_append_left (by rw [k.len]; exact hi)] at h1
        exact h1
      have h2' : W.μ[i]? = some ob' := by
        have h2 : (W.μ ++ [ob])[i]? = some ob' := h2
        rw [List.getElem?_append_left hi] at h2
        exact h2
      refine (k.ob i a ob' h1' h2').mono ext hpre fun _ u e => ?_
      show upd W.H p o a = _
      rw [upd_ne (ne_of_none e h)]
      exact e
    · have e : i = W.μ.length := by
        have h2 : (W.μ ++ [ob])[i]? = some ob' := h2
        have := (List.getElem?_eq_some_iff.mp h2).1
        rw [List.length_append] at this
        simp at this
        omega
      subst e
      have h1 : (W.m ++ [p])[W.μ.length]? = some a := h1
      have h2 : (W.μ ++ [ob])[W.μ.length]? = some ob' := h2
      rw [lastm] at h1
      rw [List.getElem?_append_right (Nat.le_refl _), Nat.sub_self] at h2
      cases h1
      cases h2
      exact hob _ ext
  · show upd W.H p o b = _
    rw [upd_ne (fun e => nz (by rw [← e]; exact hb))]
theorem live_set {μ : Mem} {ob : Ob} {i n : Nat} (hn : live μ n) (hf : ∀ d, ob ≠ .fro d) : live (μ.set n ob) i ↔ live μ i := by
  unfold live
  by_cases h : n = i
  · subst h
    have hl : n < μ.length := by
      unfold live at hn
      cases e : μ[n]? with
      | none => rw [e] at hn; exact hn.elim
      | some _ => exact (List.getElem?_eq_some_iff.mp e).1
    rw [List.getElem?_set_self hl]
    have hn' : (match μ[n]? with | some (.fro _) => False | some _ => True | none => False) := hn
    constructor
    · exact fun _ => hn'
    · intro _
      cases ob with
      | fro d => exact absurd rfl (hf d)
      | _ => trivial
  · rw [List.getElem?_set_ne h]
/-- what a ref holds is changed -/
theorem Mok.write {ob : Ob} {n : Nat} {a : Addr} (k : Mok G z W) (hn : live W.μ n) (hm : W.m[n]? = some a) (hf : ∀ d, ob ≠ .fro d)
    (hob : ObR G (W.F z) W.m (upd W.H a o) a ob) :
    Mok G z ⟨W.m, W.μ.set n ob, upd W.H a o⟩ ∧ Le z W ⟨W.m, W.μ.set n ob, upd W.H a o⟩ := by
  have la : W.lv a := ⟨n, hn, hm⟩
  have lvi : ∀ b, Wd.lv ⟨W.m, W.μ.set n ob, upd W.H a o⟩ b ↔ W.lv b := fun b => by
    constructor
    · rintro ⟨i, hl, h⟩
      exact ⟨i, (live_set hn hf).mp hl, h⟩
    · rintro ⟨i, hl, h⟩
      exact ⟨i, (live_set hn hf).mpr hl, h⟩
  have eF : ∀ b, Wd.F z ⟨W.m, W.μ.set n ob, upd W.H a o⟩ b = W.F z b := fun b => by
    by_cases hb : b ∈ z ∨ W.lv b
    · have h1 : Wd.F z W b = none := by
        unfold Wd.F
        rw [if_pos hb]
      have h2 : Wd.F z ⟨W.m, W.μ.set n ob, upd W.H a o⟩ b = none := by
        unfold Wd.F
        rw [if_pos (hb.imp id (lvi b).mpr)]
      rw [h1, h2]
    · have h1 : Wd.F z W b = W.H b := by
        unfold Wd.F
        rw [if_neg hb]
      have h2 : Wd.F z ⟨W.m, W.μ.set n ob, upd W.H a o⟩ b = upd W.H a o b := by
        unfold Wd.F
        rw [if_neg (fun q => hb (q.imp id (lvi b).mp))]
      rw [h1, h2, upd_ne (fun e => hb (.inr (by rw [e]; exact la)))]
  have ext : Ext (W.F z) (Wd.F z ⟨W.m, W.μ.set n ob, upd W.H a o⟩) := fun b u e _ => by
    rw [eF]
    exact e
  have nza : ∀ b ∈ z, b ≠ a := fun b hb e => k.zl b hb (by rw [e]; exact la)
  refine ⟨⟨?_, fun i j c hi hj h1 h2 => k.inj i j c ((live_set hn hf).mp hi) ((live_set hn hf).mp hj) h1 h2, fun b hb q => k.zl b hb ((lvi b).mp q), fun b hb => ?_, let ⟨_, e1, e2⟩ := k.thereP hn hm; tabs_upd k.tabs e1 e2, fun i c ob' h1 h2 => ?_⟩, ⟨fun _ _ q => q, ext, fun b hb => ?_⟩⟩
  · show W.m.length = (W.μ.set n ob).length
    rw [List.length_set]
    exact k.len
  · obtain ⟨u, e⟩ := k.zs b hb
    exact ⟨u, by show upd W.H a o b = _; rw [upd_ne (nza b hb)]; exact e⟩
  · by_cases hin : i = n
    · subst hin
      have hl : i < W.μ.length := by
        have := (List.getElem?_eq_some_iff.mp hm).1
        rw [← k.len]
        exact this
      have h2 : (W.μ.set i ob)[i]? = some ob' := h2
      rw [List.getElem?_set_self hl] at h2
      cases h2
      have h1 : W.m[i]? = some c := h1
      rw [hm] at h1
      cases h1
      exact hob.mono ext (fun _ _ q => q) fun _ _ q => q
    · have h2 : (W.μ.set n ob)[i]? = some ob' := h2
      rw [List.getElem?_set_ne (Ne.symm hin)] at h2
      refine (k.ob i c ob' h1 h2).mono ext (fun _ _ q => q) fun hnf u e => ?_
      have hli : live W.μ i := by
        unfold live
        rw [h2]
        cases ob' with
        | fro d => exact absurd rfl (hnf d)
        | _ => trivial
      show upd W.H a o c = _
      rw [upd_ne (fun e2 => hin (k.inj i n c hli hn h1 (by rw [e2]; exact hm)))]
      exact e
  · show upd W.H a o b = _
    rw [upd_ne (nza b hb)]
/-- a list is frozen -/
theorem Mok.freeze {n : Nat} {a : Addr} {xs : List D} (k : Mok G z W) (hm : W.m[n]? = some a) (hn : W.μ[n]? = some (.lst xs)) :
    Mok G z ⟨W.m, W.μ.set n (.fro (.lst xs)), W.H⟩ ∧ Le z W ⟨W.m, W.μ.set n (.fro (.lst xs)), W.H⟩ ∧ RpW G z ⟨W.m, W.μ.set n (.fro (.lst xs)), W.H⟩ (.lst xs) (.ref a) := by
  have hl : n < W.μ.length := (List.getElem?_eq_some_iff.mp hn).1
  have ln : live W.μ n := by
    unfold live
    rw [hn]
    trivial
  have la : W.lv a := ⟨n, ln, hm⟩
  have lvs : ∀ i, live (W.μ.set n (.fro (.lst xs))) i → live W.μ i ∧ i ≠ n := fun i hi => by
    unfold live at hi ⊢
    by_cases h : n = i
    · subst h
      rw [List.getElem?_set_self hl] at hi
      exact hi.elim
    · rw [List.getElem?_set_ne h] at hi
      exact ⟨hi, Ne.symm h⟩
  have lvi : ∀ b, Wd.lv ⟨W.m, W.μ.set n (.fro (.lst xs)), W.H⟩ b → W.lv b ∧ b ≠ a := fun b ⟨i, h1, h2⟩ => by
    obtain ⟨q1, q2⟩ := lvs i h1
    exact ⟨⟨i, q1, h2⟩, fun e => q2 (k.inj i n a q1 ln (by rw [← e]; exact h2) hm)⟩
  have ext : Ext (W.F z) (Wd.F z ⟨W.m, W.μ.set n (.fro (.lst xs)), W.H⟩) := fun b u e _ => by
    obtain ⟨h1, h2, h3⟩ := Wd.F_some e
    exact Wd.F_of h1 h2 fun q => h3 (lvi b q).1
  obtain ⟨vs, hv, rv⟩ : ∃ vs, W.H a = some (.lst vs) ∧ Rps G (W.F z) W.m xs vs := k.ob n a _ hm hn
  have rep : RpW G z ⟨W.m, W.μ.set n (.fro (.lst xs)), W.H⟩ (.lst xs) (.ref a) := .lst (Wd.F_of hv (fun hz => k.zl a hz la) fun q => (lvi a q).2 rfl) (rv.mono ext fun _ _ q => q)
  refine ⟨⟨?_, fun i j c hi hj h1 h2 => k.inj i j c (lvs i hi).1 (lvs j hj).1 h1 h2, fun b hb q => k.zl b hb (lvi b q).1, k.zs, k.tabs, fun i c ob' h1 h2 => ?_⟩, ⟨fun _ _ q => q, ext, fun _ _ => rfl⟩, rep⟩
  · show W.m.length = (W.μ.set n _).length
    rw [List.length_set]
    exact k.len
  · by_cases hin : i = n
    · subst hin
      have h2 : (W.μ.set i (.fro (.lst xs)))[i]? = some ob' := h2
      rw [List.getElem?_set_self hl] at h2
      cases h2
      have h1 : W.m[i]? = some c := h1
      rw [hm] at h1
      cases h1
      exact rep
    · have h2 : (W.μ.set n (.fro (.lst xs)))[i]? = some ob' := h2
      rw [List.getElem?_set_ne (Ne.symm hin)] at h2
      exact (k.ob i c ob' h1 h2).mono ext (fun _ _ q => q) fun _ _ e => e
end

/-! ### runs in worlds -/
theorem T.good_mono {α : Type} {Q Q' : α → Prop} : ∀ {t : T α}, (∀ a, Q a → Q' a) → t.good Q → t.good Q'
  | .ret a, h, q => h a q
  | .roll n k, h, q => fun r hr => T.good_mono h (q r hr)
theorem T.good_bind {α β : Type} {Q : β → Prop} {f : α → T β} : ∀ {t : T α}, (t.bind f).good Q → t.good fun a => (f a).good Q
  | .ret a, q => q
  | .roll n k, q => fun r hr => T.good_bind (q r hr)
theorem T.bind_good {α β : Type} {Q : β → Prop} {f : α → T β} : ∀ {t : T α}, (t.good fun a => (f a).good Q) → (t.bind f).good Q
  | .ret a, q => q
  | .roll n k, q => fun r hr => T.bind_good (q r hr)
/-- the run t in the world W: it comes to P, or lets out an exception as Ex says -/
def Wp (G : Gx) (z : List Addr) (W : Wd) {α : Type} (m : M α) (P : α → Wd → Prop) (Ex : Nat → List D → Wd → Prop) : Prop :=
  (m W.μ).good fun r => match r with
    | .ok a μ' => ∀ W' : Wd, W'.μ = μ' → Mok G z W' → Le z W W' → P a W'
    | .exc c xs μ' => ∀ W' : Wd, W'.μ = μ' → Mok G z W' → Le z W W' → Ex c xs W'
    | .bad => False
section
variable {G : Gx} {z : List Addr} {W : Wd} {α β : Type} {m : M α} {P P' : α → Wd → Prop} {Ex Ex' : Nat → List D → Wd → Prop}
theorem Wp.mono (h : Wp G z W m P Ex) (hp : ∀ a W', Mok G z W' → Le z W W' → P a W' → P' a W') (he : ∀ c xs W', Mok G z W' → Le z W W' → Ex c xs W' → Ex' c xs W') : Wp G z W m P' Ex' := by
  refine T.good_mono (fun r q => ?_) h
  cases r with
  | ok a μ' => exact fun W' e k l => hp a W' k l (q W' e k l)
  | exc c xs μ' => exact fun W' e k l => he c xs W' k l (q W' e k l)
  | bad => exact q
theorem Wp.bind {f : α → M β} {P : β → Wd → Prop} (h : Wp G z W (M.bind m f) P Ex) : Wp G z W m (fun a W' => Wp G z W' (f a) P Ex) Ex := by
  refine T.good_mono (fun r q => ?_) (T.good_bind h)
  cases r with
  | ok a μ' =>
    intro W' e k l
    show ((f a) W'.μ).good _
    rw [e]
    refine T.good_mono (fun r q => ?_) q
    cases r with
    | ok b μ2 => exact fun W2 e2 k2 l2 => q W2 e2 k2 (l.trans l2)
    | exc c xs μ2 => exact fun W2 e2 k2 l2 => q W2 e2 k2 (l.trans l2)
    | bad => exact q
  | exc c xs μ' => exact q
  | bad => exact q
theorem Wp.pure {a : α} (h : Wp G z W (M.pure a) P Ex) (W' : Wd) (e : W'.μ = W.μ) (k : Mok G z W') (l : Le z W W') : P a W' := h W' e k l
theorem Wp.pure0 {a : α} (h : Wp G z W (M.pure a) P Ex) (k : Mok G z W) : P a W := h W rfl k (Le.refl z W)
theorem Wp.pure' {a : α} (h : ∀ W' : Wd, W'.μ = W.μ → Mok G z W' → Le z W W' → P a W') : Wp G z W (M.pure a) P Ex := h
theorem Wp.bad (h : Wp G z W (M.bad : M α) P Ex) : False := h
theorem Wp.opt {o : Option α} (h : Wp G z W (M.opt o) P Ex) (k : Mok G z W) : ∃ a, o = some a ∧ P a W := by
  cases o with
  | none => exact (Wp.bad h).elim
  | some a => exact ⟨a, rfl, h.pure0 k⟩
theorem Wp.ite {c : Prop} [Decidable c] {m' : M α} (h : Wp G z W (if c then m else m') P Ex) : (c ∧ Wp G z W m P Ex) ∨ (¬ c ∧ Wp G z W m' P Ex) := by
  by_cases q : c
  · rw [if_pos q] at h
    exact .inl ⟨q, h⟩
  · rw [if_neg q] at h
    exact .inr ⟨q, h⟩
end
end DL
/-! DL3: own syntax against the text: the check -/
namespace DL
open PySem PyProof.Rows L2 PySem.Spec

/-- where a piece of text stands: its names by slot, its scope, the written scope of the block it stands in (none: a def's own body), the text's defs with their numbers of parameters, its constants -/
structure Cxt where
  N : List Str
  sc : Scope
  own : Option Scope
  fns : List (Str × Nat)
  cns : List Str
  gcd : Bool
  hot : Bool
  lam : Bool
  ers : List (Nat × Str)
  exs : List (Str × Bool)
def visB (sc : Scope) (x : Str) : Bool := match sc.names.lookup x with
  | some .local => true
  | some .cell => true
  | some .free => true
  | _ => false
def glB (sc : Scope) (x : Str) : Bool := match sc.names.lookup x with
  | some .globalImplicit => true
  | _ => false
def okNm (x : Str) : Bool := !(x == ("__debug__" : Str)) && !(x == ("__classdict__" : Str))
def Cxt.nm (Γ : Cxt) (i : Nat) (x : Str) : Bool := decide (Γ.N[i]? = some x)
def Cxt.asg (Γ : Cxt) (x : Str) : Bool := match Γ.sc.names.lookup x with
  | some .local => true
  | some .cell => match Γ.own with
    | none => true
    | some s => s.names.lookup x == some .cell
  | _ => false
/-! ### which form an expression has -/
def notStar : Expr → Bool
  | .Starred _ _ => false
  | _ => true
def notSet : Expr → Bool
  | .Set _ _ _ => false
  | _ => true
def notSlice : Expr → Bool
  | .Slice _ _ _ _ => false
  | _ => true
def notComp : Expr → Bool
  | .ListComp _ _ _ _ => false
  | .SetComp _ _ _ _ => false
  | .DictComp _ _ _ _ _ => false
  | _ => true
def plainTest : Expr → Bool
  | .UnaryOp .Not _ _ => false
  | .BoolOp _ _ _ => false
  | .IfExp _ _ _ _ => false
  | .Compare _ _ _ _ => false
  | _ => true
theorem star_of {e : Expr} {es : List Expr} {env : PySem.Env} (h : notStar e = true) : starEach (e :: es) env = (false, eval e env) :: starEach es env := by
  cases e <;> first | rfl | cases h
theorem stars_false {env : PySem.Env} {pos : Pos} : ∀ {es : List Expr}, es.all notStar = true → (backTo pos (starEach es env)).any (·.1) = false
  | [], _ => rfl
  | e :: es, h => by
    simp only [List.all_cons, Bool.and_eq_true] at h
    rw [star_of h.1]
    have ih := stars_false (env := env) (pos := pos) h.2
    unfold backTo at ih ⊢
    simpa using ih
theorem assign_of {e : Expr} {es : List Expr} {env : PySem.Env} (h : notStar e = true) : assignEach (e :: es) env = (false, assign e env) :: assignEach es env := by
  cases e <;> first | rfl | cases h
theorem assigns_of {env : PySem.Env} : ∀ {es : List Expr}, es.all notStar = true → assignEach es env = es.map fun e => (false, assign e env)
  | [], _ => rfl
  | e :: es, h => by
    simp only [List.all_cons, Bool.and_eq_true] at h
    rw [assign_of h.1, assigns_of h.2]
    rfl
theorem slice_of {e : Expr} (h : notSlice e = true) : PlainIx e := by
  intro o i
  cases e <;> first | rfl | cases h
theorem set_of {e : Expr} {env : PySem.Env} (h : notSet e = true) : ∀ x, foldedSetIterable e env x = pure x := by
  intro x
  cases e <;> first | rfl | cases h
theorem mark_of {e : Expr} {op : CmpOp} (h : notSet e = true) : behindInMarks op e = false := by
  cases e <;> first | rfl | cases h
theorem swap_none {e : Expr} {n : Nat} {env : PySem.Env} (h : notComp e = true) (t : Option Expr) : swapsWith e t n env = pure false := by
  cases e <;> first | rfl | cases h
theorem plain_of {e : Expr} {env : PySem.Env} (h : plainTest e = true) : ∀ whole, isTrue e env whole = (do let v ← whole; standAt e.pos; holding [v] (truthy v)) := by
  intro whole
  cases e with
  | UnaryOp op a p => cases op <;> first | rfl | cases h
  | BoolOp => cases h
  | IfExp => cases h
  | Compare => cases h
  | _ => rfl

/-! ### targets -/
mutual
def ckT (Γ : Cxt) : Tz → Expr → Bool
  | .nm i, .Name x _ => Γ.nm i x && Γ.asg x
  | .tp ts, .Tuple es _ _ => ckTs Γ ts es
  | _, _ => false
def ckTs (Γ : Cxt) : Tz → List Expr → Bool
  | .nil, [] => true
  | .cons t ts, e :: es => notStar e && ckT Γ t e && ckTs Γ ts es
  | _, _ => false
end
def isTup : Expr → Bool
  | .Tuple _ _ _ => true
  | _ => false
mutual
def namesT : Expr → List Str
  | .Name x _ => [x]
  | .Tuple es _ _ => namesTs es
  | _ => []
def namesTs : List Expr → List Str
  | [] => []
  | e :: es => namesT e ++ namesTs es
end

/-! ### expressions -/
def Op2.op : Op2 → Operator
  | .add => .Add | .sub => .Sub | .mul => .Mult | .fdiv => .FloorDiv | .mod => .Mod | .pow => .Pow
  | .shl => .LShift | .shr => .RShift | .band => .BitAnd | .bor => .BitOr | .bxor => .BitXor
def Cp.op : Cp → CmpOp
  | .eq => .Eq | .ne => .NotEq | .lt => .Lt | .le => .LtE | .gt => .Gt | .ge => .GtE | .isN => .Is | .notN => .IsNot | .mem => .In | .nmem => .NotIn | .isB => .Is | .notB => .IsNot
def Bf.name : Bf → Str
  | .len => "len" | .abs => "abs" | .sum => "sum" | .min1 => "min" | .max1 => "max" | .minD => "min" | .maxD => "max" | .min2 => "min" | .max2 => "max" | .int => "int" | .list => "list" | .tuple => "tuple" | .gcd => "gcd" | .isin => "isinstance" | .all => "all" | .any => "any"
def Bf.ar : Bf → Nat
  | .min2 => 2 | .max2 => 2 | .gcd => 2 | .isin => 2 | _ => 1
def bfOk (Γ : Cxt) : Bf → Bool
  | .gcd => Γ.gcd
  | .sum => !Γ.hot
  | .min1 => !Γ.hot
  | .max1 => !Γ.hot
  | .minD => !Γ.hot
  | .maxD => !Γ.hot
  | .min2 => !Γ.hot
  | .max2 => !Γ.hot
  | .all => !Γ.hot
  | .any => !Γ.hot
  | _ => true
/-- no parameters -/
def noPars (p : Arguments) : Bool := p.posonlyargs.isEmpty && p.args.isEmpty && p.vararg.isNone && p.kwonlyargs.isEmpty && p.kw_defaults.isEmpty && p.kwarg.isNone && p.defaults.isEmpty
theorem noPars_ok {p : Arguments} (h : noPars p = true) : p = ⟨[], [], none, [], [], none, []⟩ := by
  obtain ⟨a, b, c, d, e, f, g⟩ := p
  simp only [noPars, Bool.and_eq_true, List.isEmpty_iff, Option.isNone_iff_eq_none] at h
  obtain ⟨⟨⟨⟨⟨⟨rfl, rfl⟩, rfl⟩, rfl⟩, rfl⟩, rfl⟩, rfl⟩ := h
  rfl
/-- what a method is asked of: a name, an item -/
def plainBase : Expr → Bool
  | .Name _ _ => true
  | .Subscript _ _ _ => true
  | _ => false
theorem base_of {p : Expr} {m : Str} {env : PySem.Env} (h : plainBase p = true) : attributeBase p m env (eval p env) = eval p env := by
  cases p <;> first | rfl | cases h
structure Ck where
  e : Cxt → Expr → Bool
  t : Cxt → Expr → Bool
  es : Cxt → List Expr → Bool
  i : Cxt → Bool → Expr → Bool
  p : Cxt → Option Expr → Bool
  b : Cxt → BoolOp → List Expr → Bool
  bt : Cxt → BoolOp → List Expr → Bool
  l : Cxt → Expr → Bool
def Ck.ofE (f : Cxt → Expr → Bool) : Ck where
  e := f
  t := fun Γ x => f Γ x && plainTest x
  es := fun _ _ => false
  i := fun Γ _ x => f Γ x && notSet x
  p := fun Γ o => match o with
    | some x => f Γ x
    | none => false
  b := fun _ _ _ => false
  bt := fun _ _ _ => false
  l := fun _ _ => false
def Ck.ofI (f : Cxt → Bool → Expr → Bool) : Ck := { Ck.ofE (fun _ _ => false) with i := f }
def isNil : Ez → Bool
  | .nil => true
  | _ => false
def ckLc (tg : Tz) (I P A : Ck) (nl : Bool) (Γ : Cxt) (x : Expr) : Bool := match x with
  | .ListComp y [⟨tgx, itx, ifs, as⟩] s _ => decide (as = 0) && notSet itx && I.i Γ (isTup tgx) itx &&
    decide ((namesT tgx).length = tg.slots.length) && blkC Γ.N Γ.sc s ((namesT tgx).zip tg.slots) &&
    (ckT { Γ with sc := relS s Γ.sc, own := some s } tg tgx && (match ifs with
      | [] => nl
      | [c] => !nl && P.t { Γ with sc := relS s Γ.sc, own := some s } c
      | _ => false) && A.e { Γ with sc := relS s Γ.sc, own := some s } y)
  | _ => false
def ckBf (f : Bf) (A : Ck) (Γ : Cxt) (x : Expr) : Bool := match x with
  | .Call (.Name y _) xs [] _ => decide (y = f.name) && decide (xs.length = f.ar) && glB Γ.sc y && xs.all notStar && bfOk Γ f && A.es Γ xs
  | _ => false
def ck : Ez → Ck
  | .non => .ofE fun _ x => match x with
    | .Constant .none _ _ => true
    | _ => false
  | .bl b => .ofE fun _ x => match x with
    | .Constant (.bool c) _ _ => b == c
    | _ => false
  | .int i => .ofE fun _ x => match x with
    | .Constant (.int j) _ _ => decide (i = j)
    | _ => false
  | .str s => .ofE fun _ x => match x with
    | .Constant (.str t) _ _ => decide (s = t)
    | _ => false
  | .var i => .ofE fun Γ x => match x with
    | .Name y _ => Γ.nm i y && visB Γ.sc y && okNm y
    | _ => false
  | .frz i => .ofE fun Γ x => match x with
    | .Name y _ => Γ.nm i y && visB Γ.sc y && okNm y
    | _ => false
  | .gfn k => .ofE fun Γ x => match x with
    | .Name y _ => (match Γ.fns[k]? with
      | some (z, _) => decide (y = z)
      | none => false) && glB Γ.sc y && okNm y
    | _ => false
  | .gcon k => .ofE fun Γ x => match x with
    | .Name y _ => decide (Γ.cns[k]? = some y) && glB Γ.sc y && okNm y
    | _ => false
  | .gty n => .ofE fun Γ x => match x with
    | .Name y _ => tyOk n && decide (y = Str.ofString n) && glB Γ.sc y
    | _ => false
  | .bin o a b =>
    let f : Cxt → Expr → Bool := fun Γ x => match x with
      | .BinOp l op r _ => decide (op = o.op) && (ck a).e Γ l && (ck b).e Γ r
      | _ => false
    { Ck.ofE f with l := fun Γ x => (decide (o = .add) || decide (o = .mul)) && f Γ x }
  | .neg a => .ofE fun Γ x => match x with
    | .UnaryOp .USub y _ => (ck a).e Γ y
    | _ => false
  | .cmp c a b =>
    let f : Cxt → Expr → Bool := fun Γ x => match x with
      | .Compare l [op] [r] _ => decide (op = c.op) && notSet r && (ck a).e Γ l && (ck b).e Γ r
      | _ => false
    { Ck.ofE f with t := f }
  | .chain c c' a b d =>
    let f : Cxt → Expr → Bool := fun Γ x => match x with
      | .Compare l [op, op'] [m, r] _ => decide (op = c.op) && decide (op' = c'.op) && notSet r && notSet m && (ck a).e Γ l && (ck b).e Γ m && (ck d).e Γ r
      | _ => false
    { Ck.ofE f with t := f }
  | .bool o es =>
    { Ck.ofE fun Γ x => match x with
      | .BoolOp op vs _ => decide (op = o) && (ck es).b Γ o vs
      | _ => false with
      t := fun Γ x => match x with
      | .BoolOp op vs _ => decide (op = o) && (ck es).bt Γ o vs
      | _ => false }
  | .not a =>
    { Ck.ofE fun Γ x => match x with
      | .UnaryOp .Not y _ => (ck a).e Γ y
      | _ => false with
      t := fun Γ x => match x with
      | .UnaryOp .Not y _ => (ck a).t Γ y
      | _ => false }
  | .ife c a b => .ofE fun Γ x => match x with
    | .IfExp t l r _ => (ck c).t Γ t && (ck a).e Γ l && (ck b).e Γ r
    | _ => false
  | .tup es => .ofE fun Γ x => match x with
    | .Tuple xs _ _ => (ck es).es Γ xs
    | _ => false
  | .lst es =>
    let f : Cxt → Expr → Bool := fun Γ x => match x with
      | .List xs _ => (ck es).es Γ xs
      | _ => false
    { Ck.ofE f with l := f }
  | .idx a i => .ofE fun Γ x => match x with
    | .Subscript l r _ => notSlice r && (ck a).e Γ l && (ck i).e Γ r
    | _ => false
  | .slc a lo hi =>
    let f : Cxt → Expr → Bool := fun Γ x => match x with
      | .Subscript l (.Slice p q none _) _ => (ck a).e Γ l && (ck lo).p Γ p && (ck hi).p Γ q
      | _ => false
    { Ck.ofE f with l := f }
  | .mkl a => .ofE fun Γ x => (ck a).l Γ x
  | .call k es => .ofE fun Γ x => match x with
    | .Call (.Name y _) xs [] _ => !Γ.hot && (match Γ.fns[k]? with
      | some (z, n) => decide (y = z) && decide (xs.length = n)
      | none => false) && glB Γ.sc y && okNm y && xs.all notStar && (ck es).es Γ xs
    | _ => false
  | .bf f es =>
    let c := ckBf f (ck es)
    { Ck.ofE c with l := fun Γ x => decide (f = .list) && c Γ x }
  | .lc tg it cond elt =>
    let f := ckLc tg (ck it) (ck cond) (ck elt) (isNil cond)
    { Ck.ofE f with l := f }
  | .range1 a => .ofI fun Γ _ x => match x with
    | .Call (.Name y _) [e] [] _ => !Γ.hot && decide (y = ("range" : Str)) && glB Γ.sc y && notStar e && (ck a).e Γ e
    | _ => false
  | .range2 a b => .ofI fun Γ _ x => match x with
    | .Call (.Name y _) [e, u] [] _ => !Γ.hot && decide (y = ("range" : Str)) && glB Γ.sc y && notStar e && notStar u && (ck a).e Γ e && (ck b).e Γ u
    | _ => false
  | .enum a => .ofI fun Γ tp x => match x with
    | .Call (.Name y _) [e] [] _ => !Γ.hot && tp && decide (y = ("enumerate" : Str)) && glB Γ.sc y && notStar e && (ck a).e Γ e
    | _ => false
  | .zip a b => .ofI fun Γ tp x => match x with
    | .Call (.Name y _) [e, u] [] _ => !Γ.hot && tp && decide (y = ("zip" : Str)) && glB Γ.sc y && notStar e && notStar u && (ck a).e Γ e && (ck b).e Γ u
    | _ => false
  | .zipL a b => .ofI fun Γ tp x => match x with
    | .Call (.Name y _) [e, u] [] _ => Γ.hot && tp && decide (y = ("zip" : Str)) && glB Γ.sc y && notStar e && notStar u && (ck a).e Γ e && (ck b).e Γ u
    | _ => false
  | .bad => .ofE fun _ _ => true
  | .isx a q => .ofE fun Γ x => match x with
    | .Call (.Name y _) [e, .Name c _] [] _ => decide (y = ("isinstance" : Str)) && Γ.hot && Γ.own.isNone && glB Γ.sc y && notStar e && (ck a).e Γ e && (match Γ.exs[q]? with
      | some (c', _) => decide (c' = c)
      | none => false) && glB Γ.sc c && okNm c
    | _ => false
  | .join s b => .ofE fun Γ x => match x with
    | .Call (.Attribute (.Constant (.str s') _ _) m apos) [e] [] pos => decide (m = ("join" : Str)) && (apos.endLine == pos.line) && notStar e && decide (s = s') && (ck b).e Γ e
    | _ => false
  | .err k a => .ofE fun Γ x => match x with
    | .Call (.Name y _) [.Lambda ps b s _] [] _ => !Γ.hot && Γ.lam && decide (Γ.ers.lookup k = some y) && glB Γ.sc y && okNm y && noPars ps && LamX.lamSB Γ.sc s && (ck a).e { Γ with sc := s, own := some s, lam := false, ers := [] } b
    | _ => false
  | .callv i es => .ofE fun Γ x => match x with
    | .Call (.Name y _) (e :: xs) [] _ => !Γ.hot && Γ.nm i y && visB Γ.sc y && okNm y && (e :: xs).all notStar && (ck es).es Γ (e :: xs)
    | _ => false
  | .dnew _ => .ofE fun _ x => match x with
    | .Dict [] [] _ => true
    | _ => false
  | .dget a b => .ofE fun Γ x => match x with
    | .Subscript l r _ => notSlice r && (ck a).e Γ l && (ck b).e Γ r
    | _ => false
  | .dgetT a es => .ofE fun Γ x => match x with
    | .Subscript l (.Tuple xs _ _) _ => (ck a).e Γ l && (ck es).es Γ xs
    | _ => false
  | .lrng a b =>
    let f : Cxt → Expr → Bool := fun Γ x => match x with
      | .Call (.Name y _) [.Call (.Name z _) [e, u] [] _] [] _ => !Γ.hot && decide (y = ("list" : Str)) && decide (z = ("range" : Str)) && glB Γ.sc y && glB Γ.sc z && notStar e && notStar u && (ck a).e Γ e && (ck b).e Γ u
      | _ => false
    { Ck.ofE f with l := f }
  | .trng a b => .ofE fun Γ x => match x with
    | .Call (.Name y _) [.Call (.Name z _) [e, u] [] _] [] _ => !Γ.hot && decide (y = ("tuple" : Str)) && decide (z = ("range" : Str)) && glB Γ.sc y && glB Γ.sc z && notStar e && notStar u && (ck a).e Γ e && (ck b).e Γ u
    | _ => false
  | .rev a =>
    let f : Cxt → Expr → Bool := fun Γ x => match x with
      | .Subscript l (.Slice none none (some (.UnaryOp .USub (.Constant (.int j) _ _) _)) _) _ => decide (j = 1) && (ck a).e Γ l
      | _ => false
    { Ck.ofE f with l := f }
  | .range3 a b c => .ofI fun Γ _ x => match x with
    | .Call (.Name y _) [e, u, v] [] _ => !Γ.hot && decide (y = ("range" : Str)) && glB Γ.sc y && notStar e && notStar u && notStar v && (ck a).e Γ e && (ck b).e Γ u && (ck c).e Γ v
    | _ => false
  | .index a b => .ofE fun Γ x => match x with
    | .Call (.Attribute p m apos) [u] [] pos => decide (m = ("index" : Str)) && (apos.endLine == pos.line) && notStar u && plainBase p && (ck a).e Γ p && (ck b).e Γ u
    | _ => false
  | .nil => { Ck.ofE (fun _ _ => false) with
      es := fun _ xs => xs.isEmpty
      p := fun _ o => o.isNone }
  | .cons e es => { Ck.ofE (fun _ _ => false) with
      p := fun _ _ => false
      es := fun Γ xs => match xs with
        | y :: ys => notStar y && (ck e).e Γ y && (ck es).es Γ ys
        | [] => false
      b := fun Γ o xs => match xs with
        | [y] => (match es with
          | .nil => true
          | _ => false) && (ck e).e Γ y
        | y :: z :: ys => (match es with
          | .cons _ _ => true
          | _ => false) && (ck e).e Γ y && (ck es).b Γ o (z :: ys)
        | [] => false
      bt := fun Γ o xs => match xs with
        | [y] => (match es with
          | .nil => true
          | _ => false) && (ck e).t Γ y
        | y :: z :: ys => (match es with
          | .cons _ _ => true
          | _ => false) && (ck e).t Γ y && (ck es).bt Γ o (z :: ys)
        | [] => false }
end DL
/-! DL4: what a checked expression does, by the interpreter: readings, operators -/
namespace DL
open PySem PyProof.Rows L2 PySem.Spec

/-- an exception's fields, by its own dict -/
def ExR (G : Gx) (z : List Addr) (xs : List D) (d : Option Addr) (W : Wd) : Prop := match xs with
  | [] => d = none
  | [x] => ∃ dd f v, d = some dd ∧ W.F z dd = some (.xd [(f, v)]) ∧ RpW G z W x v
  | _ => False
def exW (G : Gx) (z : List Addr) (Wx : WX) (σ : L2.St) : Nat → List D → Wd → Prop := fun c xs W => ∀ d, ExR G z xs d W → Wx (.ref (G.ca c)) d σ W.H
/-- the run of f from these slots and this heap -/
def Run (G : Gx) (Wx : WX) {α : Type} (f : Env → M α) (σ : L2.St) (H : Hp) (P : List Addr → α → Wd → Prop) : Prop :=
  ∃ z ρ W, W.H = H ∧ Mok G z W ∧ EnvR G z W ρ σ ∧ Wp G z W (f ρ) (P z) (exW G z Wx σ)
def tD (G : Gx) (Wx : WX) (f : Env → M D) : TE := fun σ H Q => Run G Wx f σ H fun z d W => ∀ v, RpW G z W d v → Q v W.H
def tT (G : Gx) (Wx : WX) (f : Env → M Bool) : TT := fun σ H Q => Run G Wx f σ H fun z b W => Q b W.H
def tA (G : Gx) (Wx : WX) (f : Env → M (List D)) : TA := fun σ H Q => Run G Wx f σ H fun z ds W => ∀ vs, RpsW G z W ds vs → Q vs W.H
def tL (G : Gx) (Wx : WX) (f : Env → M (List D)) : TE := fun σ H Q => Run G Wx f σ H fun z ds W => ∀ vs, RpsW G z W ds vs → ∀ p, W.H p = none → Q (.ref p) (upd W.H p (.lst vs))
def tO (G : Gx) (Wx : WX) (f : Env → M (Option Int)) : TO := fun σ H Q => Run G Wx f σ H fun z o W => Q o W.H
/-- J yields these data -/
def ItR (G : Gx) (F : Hp) (m : List Addr) (J : It) (ds : List D) : Prop :=
  ∀ (z : List Addr) (W : Wd), Mok G z W → Ext F (W.F z) → (∀ (i : Nat) (a : Addr), m[i]? = some a → W.m[i]? = some a) →
    (∀ i d, ds[i]? = some d → J.go i W.H ∧ ∀ x H', J.yld i W.H x H' → ∃ W' : Wd, W'.H = H' ∧ W'.μ = W.μ ∧ Mok G z W' ∧ Le z W W' ∧ RpW G z W' d x) ∧ (∀ i, ds.length ≤ i → J.stop i W.H)
def tI (G : Gx) (Wx : WX) (f : Env → M (List D)) : TI := fun σ H R => Run G Wx f σ H fun z ds W => ∀ J, ItR G (W.F z) W.m J ds → R J W.H

theorem impPE {X : Cx} {e : Expr} {t t' : TE} (h : PE X e t) (hi : ∀ σ H Q, t' σ H Q → t σ H Q) : PE X e t' := ⟨fun pins s σ H Q I q => h.run pins s σ H Q I (hi σ H Q q)⟩
theorem impPT {X : Cx} {e : Expr} {t t' : TT} (h : PT X e t) (hi : ∀ σ H Q, t' σ H Q → t σ H Q) : PT X e t' := ⟨fun pins s σ H Q I q => h.run pins s σ H Q I (hi σ H Q q)⟩
theorem impPW {X : Cx} {e : Expr} {t t' : TT} (h : PW X e t) (hi : ∀ σ H Q, t' σ H Q → t σ H Q) : PW X e t' := ⟨fun w pins s σ H Q I q => h.run w pins s σ H Q I (hi σ H Q q)⟩
theorem impPA {X : Cx} {e : List Expr} {t t' : TA} (h : PA X e t) (hi : ∀ σ H Q, t' σ H Q → t σ H Q) : PA X e t' := ⟨fun w pins s σ H Q I q => h.run w pins s σ H Q I (hi σ H Q q)⟩
theorem impPI {X : Cx} {g e : Expr} {t t' : TI} (h : PI X g e t) (hi : ∀ σ H Q, t' σ H Q → t σ H Q) : PI X g e t' := ⟨fun pins s σ H Q I q => h.run pins s σ H Q I (hi σ H Q q)⟩
theorem impPO {X : Cx} {e : Option Expr} {t t' : TO} (h : PO X e t) (hi : ∀ σ H Q, t' σ H Q → t σ H Q) : PO X e t' := ⟨fun pins s σ H Q I q => h.run pins s σ H Q I (hi σ H Q q)⟩

section
variable {G : Gx} {Wx : WX} {σ : L2.St} {H : Hp} {α : Type} {P : List Addr → α → Wd → Prop} {z : List Addr} {W : Wd}
theorem un1 {f : Env → M D} {op : Env → D → M α} (h : Run G Wx (fun ρ => (f ρ).bind (op ρ)) σ H P) {R : V → Hp → Prop}
    (hr : ∀ z ρ W d v, Mok G z W → EnvR G z W ρ σ → RpW G z W d v → Wp G z W (op ρ d) (P z) (exW G z Wx σ) → R v W.H) : tD G Wx f σ H R := by
  obtain ⟨z, ρ, W, e, k, r, h⟩ := h
  exact ⟨z, ρ, W, e, k, r, h.bind.mono (fun d1 W1 k1 l1 h1 v1 rv1 => hr z ρ W1 d1 v1 k1 (r.le l1) rv1 h1) fun _ _ _ _ _ q => q⟩
theorem bin2 {f g : Env → M D} {op : Env → D → D → M α} (h : Run G Wx (fun ρ => (f ρ).bind fun x => (g ρ).bind fun y => op ρ x y) σ H P) {R : V → V → Hp → Prop}
    (hr : ∀ z ρ W d1 d2 v1 v2, Mok G z W → EnvR G z W ρ σ → RpW G z W d1 v1 → RpW G z W d2 v2 → Wp G z W (op ρ d1 d2) (P z) (exW G z Wx σ) → R v1 v2 W.H) :
    tD G Wx f σ H fun x H1 => tD G Wx g σ H1 fun y H2 => R x y H2 := by
  refine un1 h fun z ρ W d v k r rv h1 => ?_
  exact ⟨z, ρ, W, rfl, k, r, h1.bind.mono (fun d2 W2 k2 l2 h2 v2 rv2 => hr z ρ W2 d d2 v v2 k2 (r.le l2) (rv.le l2) rv2 h2) fun _ _ _ _ _ q => q⟩

/-! ### data read -/
theorem F_sub {b : Addr} {o : HO} (h : W.F z b = some o) : W.H b = some o := (Wd.F_some h).1
theorem sqT_of {a : Addr} {vs : List V} (h : SqT G.K (W.F z) a vs) : SqT G.K W.H a vs := sqT_sub (fun _ _ q => F_sub q) h
theorem sqL_of {a : Addr} {vs : List V} (h : SqL G.K (W.F z) a vs) : SqL G.K W.H a vs := sqL_sub (fun _ _ q => F_sub q) h
theorem Rp.inv_ref {F : Hp} {m : List Addr} {n : Nat} {v : V} (h : Rp G F m (.ref n) v) : ∃ a, v = .ref a ∧ m[n]? = some a := by
  cases h with
  | ref h => exact ⟨_, rfl, h⟩
theorem seqL_ok {Q : List D → Wd → Prop} {Ex : Nat → List D → Wd → Prop} {d : D} {v : V} (k : Mok G z W) (r : RpW G z W d v) (h : Wp G z W (seqL d) Q Ex) :
    ∃ a xs vs, v = .ref a ∧ W.H a = some (.lst vs) ∧ RpsW G z W xs vs ∧ Q xs W := by
  cases d with
  | lst xs =>
    cases r with
    | lst h1 h2 => exact ⟨_, xs, _, rfl, F_sub h1, h2, h W rfl k (Le.refl _ _)⟩
  | ref n =>
    obtain ⟨a, rfl, hm⟩ := r.inv_ref
    cases e : W.μ[n]? with
    | none =>
      have h' : (seqL (.ref n) W.μ).good _ := h
      simp only [seqL, e] at h'
      exact h'.elim
    | some o =>
      have h' : (seqL (.ref n) W.μ).good _ := h
      simp only [seqL, e] at h'
      cases o with
      | lst xs =>
        obtain ⟨vs, h1, h2⟩ := k.ob n a _ hm e
        exact ⟨a, xs, vs, rfl, h1, h2, h' W rfl k (Le.refl _ _)⟩
      | dK _ => exact h'.elim
      | dT _ => exact h'.elim
      | fro _ => exact h'.elim
      | cup => exact h'.elim
  | _ => exact (show False from h).elim
theorem seqA_ok {Q : List D → Wd → Prop} {Ex : Nat → List D → Wd → Prop} {d : D} {v : V} (k : Mok G z W) (r : RpW G z W d v) (h : Wp G z W (seqA d) Q Ex) :
    ∃ a xs vs, v = .ref a ∧ (SqL G.K W.H a vs ∨ SqT G.K W.H a vs) ∧ RpsW G z W xs vs ∧ Q xs W ∧ ((∃ ds, d = .tup ds) → SqT G.K W.H a vs ∧ SqT G.K (W.F z) a vs) ∧ ((∀ ds, d ≠ .tup ds) → W.H a = some (.lst vs)) := by
  cases d with
  | tup xs =>
    cases r with
    | tup h1 h2 => exact ⟨_, xs, _, rfl, .inr (sqT_of h1), h2, h W rfl k (Le.refl _ _), fun _ => ⟨sqT_of h1, h1⟩, fun q => absurd rfl (q xs)⟩
  | lst xs =>
    obtain ⟨a, xs, vs, e, h1, h2, h3⟩ := seqL_ok k r (show Wp G z W (seqL (.lst xs)) Q Ex from h)
    exact ⟨a, xs, vs, e, .inl (SqL.of h1), h2, h3, fun ⟨_, q⟩ => (nomatch q), fun _ => h1⟩
  | ref n =>
    obtain ⟨a, xs, vs, e, h1, h2, h3⟩ := seqL_ok k r (show Wp G z W (seqL (.ref n)) Q Ex from h)
    exact ⟨a, xs, vs, e, .inl (SqL.of h1), h2, h3, fun ⟨_, q⟩ => (nomatch q), fun _ => h1⟩
  | _ => exact (show False from h).elim

/-! ### data compared -/
mutual
theorem dp_of (k : True) : ∀ {d : D} {v : V} {y : PyData}, RpW G z W d v → d.py = some y → Dp G.K W.H v y
  | .non, _, _, .non, e => by cases e; exact .non
  | .bl b, _, _, .bl _, e => by cases e; exact .bl b
  | .int i, _, _, .int _, e => by cases e; exact .int i
  | .str x, _, _, .str _, e => by cases e; exact .str x
  | .tup xs, _, y, .tup h r, e => by
    simp only [D.py] at e
    cases q : D.pys xs with
    | none => rw [q] at e; cases e
    | some ys =>
      rw [q] at e
      cases e
      exact .tup (sqT_of h) (dps_of k r q)
  | .lst xs, _, y, .lst h r, e => by
    simp only [D.py] at e
    cases q : D.pys xs with
    | none => rw [q] at e; cases e
    | some ys =>
      rw [q] at e
      cases e
      exact .lst (SqL.of (F_sub h)) (dps_of k r q)
  | .ref _, _, _, _, e => by cases e
  | .fn _, _, _, _, e => by cases e
  | .cls _, _, _, _, e => by cases e
  | .ty _, _, _, _, e => by cases e
  | .scr _, _, _, _, e => by cases e
  | .exn, _, _, _, e => by cases e
theorem dps_of (k : True) : ∀ {d : List D} {v : List V} {y : List PyData}, RpsW G z W d v → D.pys d = some y → DpAll G.K W.H v y
  | [], _, _, .nil, e => by cases e; exact .nil
  | d :: ds, _, y, .cons h t, e => by
    simp only [D.pys] at e
    cases q1 : d.py with
    | none => rw [q1] at e; cases e
    | some y1 =>
      cases q2 : D.pys ds with
      | none => rw [q1, q2] at e; cases e
      | some ys =>
        rw [q1, q2] at e
        cases e
        exact .cons (dp_of k h q1) (dps_of k t q2)
end
/-- what is peeked at is read so -/
theorem peek_ok {Q : D → Wd → Prop} {Ex : Nat → List D → Wd → Prop} {d : D} {v : V} (k : Mok G z W) (r : RpW G z W d v) (h : Wp G z W (peek d) Q Ex) :
    ∃ d', (∀ y, d'.py = some y → Dp G.K W.H v y) ∧ Q d' W := by
  have stay : Wp G z W (M.pure d) Q Ex → ∃ d', (∀ y, d'.py = some y → Dp G.K W.H v y) ∧ Q d' W := fun h => ⟨d, fun y e => dp_of trivial r e, h.pure0 k⟩
  cases d with
  | ref n =>
    have h' : (peek (.ref n) W.μ).good _ := h
    obtain ⟨a, rfl, hm⟩ := r.inv_ref
    cases e : W.μ[n]? with
    | none => simp only [peek, e] at h'; exact (show False from h').elim
    | some o =>
      simp only [peek, e] at h'
      cases o with
      | fro x => exact ⟨x, fun y ey => dp_of trivial (k.ob n a _ hm e) ey, h' W rfl k (Le.refl _ _)⟩
      | lst xs =>
        obtain ⟨vs, h1, h2⟩ := k.ob n a _ hm e
        refine ⟨.lst xs, fun y ey => ?_, h' W rfl k (Le.refl _ _)⟩
        simp only [D.py] at ey
        cases q : D.pys xs with
        | none => rw [q] at ey; cases ey
        | some ys =>
          rw [q] at ey
          cases ey
          exact .lst (SqL.of h1) (dps_of trivial h2 q)
      | dK _ => exact (show False from h').elim
      | dT _ => exact (show False from h').elim
      | cup => exact (show False from h').elim
  | _ => exact stay h
theorem eqv_dp {a b : D} {v w' : V} {c : Bool} (ra : ∀ y, a.py = some y → Dp G.K W.H v y) (rb : ∀ y, b.py = some y → Dp G.K W.H w' y) (h : D.eqv a b = some c) :
    ∃ d e, Dp G.K W.H v d ∧ Dp G.K W.H w' e ∧ SeqAt.shaped d = true ∧ SeqAt.shaped e = true ∧ PyData.eqv d e = c := by
  unfold D.eqv at h
  cases q1 : a.py with
  | none => rw [q1] at h; cases h
  | some x =>
    cases q2 : b.py with
    | none => rw [q1, q2] at h; cases h
    | some y =>
      rw [q1, q2] at h
      simp only at h
      split at h
      · rename_i hs
        simp only [Bool.and_eq_true] at hs
        cases h
        exact ⟨x, y, ra x q1, rb y q2, hs.1, hs.2, rfl⟩
      · cases h
theorem flat_of {d : D} {v : V} (r : RpW G z W d v) (h : d.flat = true) : flatV v = true := by
  cases r <;> first | rfl | cases h
theorem flats_of : ∀ {ds : List D} {vs : List V}, RpsW G z W ds vs → ds.all D.flat = true → vs.all flatV = true
  | _, _, .nil, _ => rfl
  | _, _, .cons h t, e => by
    simp only [List.all_cons, Bool.and_eq_true] at e ⊢
    exact ⟨flat_of h e.1, flats_of t e.2⟩
theorem eqF_of {a b : D} {v w' : V} (ra : RpW G z W a v) (rb : RpW G z W b w') (ha : a.flat = true) (hb : b.flat = true) : eqV v w' = D.eqF a b := by
  cases ra <;> first | (cases ha; done) | skip
  all_goals (cases rb <;> first | (cases hb; done) | rfl)
theorem inV_of {a : D} {v : V} (ra : RpW G z W a v) (ha : a.flat = true) : ∀ {ds : List D} {vs : List V}, RpsW G z W ds vs → ds.all D.flat = true → inV v vs = ds.any fun y => D.eqF y a
  | _, _, .nil, _ => rfl
  | _, _, .cons h t, e => by
    simp only [List.all_cons, Bool.and_eq_true] at e
    have ih := inV_of ra ha t e.2
    unfold inV at ih ⊢
    rw [List.any_cons, List.any_cons, ih, eqF_of h ra e.1 ha]
theorem ints_of : ∀ {ds : List D} {vs : List V} {is : List Int}, RpsW G z W ds vs → intsOf ds = some is → vs = is.map V.int
  | [], _, _, .nil, e => by cases e; rfl
  | d :: ds, _, is, .cons h t, e => by
    cases d with
    | int i =>
      simp only [intsOf] at e
      cases q : intsOf ds with
      | none => rw [q] at e; cases e
      | some js =>
        rw [q] at e
        cases e
        cases h
        rw [ints_of t q]
        rfl
    | _ => cases e
theorem bls_of : ∀ {ds : List D} {vs : List V} {is : List Bool}, RpsW G z W ds vs → blsOf ds = some is → vs = is.map V.bl
  | [], _, _, .nil, e => by cases e; rfl
  | d :: ds, _, is, .cons h t, e => by
    cases d with
    | bl i =>
      simp only [blsOf] at e
      cases q : blsOf ds with
      | none => rw [q] at e; cases e
      | some js =>
        rw [q] at e
        cases e
        cases h
        rw [bls_of t q]
        rfl
    | _ => cases e
theorem atI_of {ds : List D} {vs : List V} {i : Int} {d : D} (r : RpsW G z W ds vs) (h : atI ds i = some d) : ∃ v, atI vs i = some v ∧ RpW G z W d v := by
  unfold atI at h ⊢
  rw [← r.len]
  cases q : ixN ds.length i with
  | none => rw [q] at h; cases h
  | some j =>
    rw [q] at h
    exact r.get (i := j) (d := d) h
theorem cut_of {ds : List D} {vs : List V} {lo hi : Option Int} (r : RpsW G z W ds vs) : RpsW G z W (cut ds lo hi) (cutV vs lo hi) := by
  unfold cut cutV
  rw [r.len]
  exact (r.drop _).take _
theorem truth_ok {Q : Bool → Wd → Prop} {Ex : Nat → List D → Wd → Prop} {d : D} {v : V} (k : Mok G z W) (r : RpW G z W d v) (h : Wp G z W (truth d) Q Ex) :
    ∃ b, TruV G.K v W.H b ∧ Q b W := by
  cases d with
  | non => cases r; exact ⟨_, rfl, h.pure0 k⟩
  | bl b => cases r; exact ⟨_, rfl, h.pure0 k⟩
  | int i => cases r; exact ⟨_, rfl, h.pure0 k⟩
  | str x =>
    cases r
    rcases (show Wp G z W (if x.length ≤ sizeLine then M.pure ((x.length : Int) != 0) else M.bad) Q Ex from h).ite with ⟨q, h⟩ | ⟨q, h⟩
    · exact ⟨_, ⟨q, rfl⟩, h.pure0 k⟩
    · exact h.bad.elim
  | tup xs =>
    cases r with
    | @tup a vs ds h1 h2 =>
      refine ⟨_, .inr (.inl ⟨_, sqT_of h1, rfl⟩), ?_⟩
      have := h.pure0 k
      have e : (!xs.isEmpty) = !vs.isEmpty := by
        cases h2 <;> rfl
      rw [← e]
      exact this
  | lst xs =>
    cases r with
    | @lst a vs ds h1 h2 =>
      refine ⟨_, .inl ⟨_, SqL.of (F_sub h1), rfl⟩, ?_⟩
      have := h.pure0 k
      have e : (!xs.isEmpty) = !vs.isEmpty := by
        cases h2 <;> rfl
      rw [← e]
      exact this
  | ref n =>
    obtain ⟨a, rfl, hm⟩ := r.inv_ref
    cases e : W.μ[n]? with
    | none =>
      have h' : (truth (.ref n) W.μ).good _ := h
      simp only [truth, e] at h'
      exact h'.elim
    | some o =>
      have h' : (truth (.ref n) W.μ).good _ := h
      simp only [truth, e] at h'
      cases o with
      | lst xs =>
        obtain ⟨vs, h1, h2⟩ := k.ob n a _ hm e
        refine ⟨_, .inl ⟨_, SqL.of h1, rfl⟩, ?_⟩
        have := h' W rfl k (Le.refl _ _)
        have e : (!xs.isEmpty) = !vs.isEmpty := by
          cases h2 <;> rfl
        rw [← e]
        exact this
      | dK kvs =>
        obtain ⟨vs, h1, h2⟩ := k.ob n a _ hm e
        refine ⟨_, .inr (.inr ⟨_, h1, rfl⟩), ?_⟩
        have := h' W rfl k (Le.refl _ _)
        have e : (!kvs.isEmpty) = !vs.isEmpty := by
          cases h2 <;> rfl
        rw [← e]
        exact this
      | dT _ => exact h'.elim
      | fro _ => exact h'.elim
      | cup => exact h'.elim
  | _ => exact (show False from h).elim
/-- the answer is a new tuple -/
theorem new_tup {ds : List D} {vs : List V} {Q : VK} {Ex : Nat → List D → Wd → Prop} (k : Mok G z W) (r : RpsW G z W ds vs) (h : Wp G z W (M.pure (.tup ds)) (fun d W' => ∀ v, RpW G z W' d v → Q v W'.H) Ex) :
    ∀ p, W.H p = none → Q (.ref p) (upd W.H p (.tup vs)) := fun p hp => by
  obtain ⟨k1, l1, f1⟩ := k.new (o := .tup vs) hp
  exact h.pure ⟨W.m, W.μ, upd W.H p (.tup vs)⟩ rfl k1 l1 (.ref p) (.tup (SqT.of f1) (r.le l1))
theorem new_lst {ds : List D} {vs : List V} {Q : VK} {Ex : Nat → List D → Wd → Prop} (k : Mok G z W) (r : RpsW G z W ds vs) (h : Wp G z W (M.pure (.lst ds)) (fun d W' => ∀ v, RpW G z W' d v → Q v W'.H) Ex) :
    ∀ p, W.H p = none → Q (.ref p) (upd W.H p (.lst vs)) := fun p hp => by
  obtain ⟨k1, l1, f1⟩ := k.new (o := .lst vs) hp
  exact h.pure ⟨W.m, W.μ, upd W.H p (.lst vs)⟩ rfl k1 l1 (.ref p) (.lst f1 (r.le l1))
/-- from a new list to its datum -/
theorem tD_of_tL {f : Env → M (List D)} {Q : VK} (h : tD G Wx (fun ρ => (f ρ).bind fun xs => M.pure (.lst xs)) σ H Q) : tL G Wx f σ H Q := by
  obtain ⟨z, ρ, W, e, k, r, h⟩ := h
  exact ⟨z, ρ, W, e, k, r, h.bind.mono (fun ds W1 k1 l1 h1 vs rv p hp => new_lst k1 rv h1 p hp) fun _ _ _ _ _ q => q⟩
end
end DL
/-! DL5: operators, built-ins by data -/
namespace DL
open PySem PyProof.Rows L2 PySem.Spec

/-- what is wanted of an answer -/
abbrev Wt (G : Gx) (z : List Addr) (Q : VK) : D → Wd → Prop := fun d W' => ∀ v, RpW G z W' d v → Q v W'.H
abbrev WtL (G : Gx) (z : List Addr) (Q : VK) : List D → Wd → Prop := fun ds W' => ∀ vs, RpsW G z W' ds vs → ∀ p, W'.H p = none → Q (.ref p) (upd W'.H p (.lst vs))
section
variable {G : Gx} {z : List Addr} {W : Wd} {Q : VK} {Ex : Nat → List D → Wd → Prop}
theorem catL {xs ys : List D} {vs us : List V} (k : Mok G z W) (r1 : RpsW G z W xs vs) (r2 : RpsW G z W ys us) (h : Wp G z W (if xs.length + ys.length ≤ sizeLine then M.pure (xs ++ ys) else M.bad) (WtL G z Q) Ex) :
    vs.length + us.length ≤ sizeLine ∧ ∀ p, W.H p = none → Q (.ref p) (upd W.H p (.lst (vs ++ us))) := by
  rcases h.ite with ⟨q, h⟩ | ⟨q, h⟩
  · exact ⟨by rw [← r1.len, ← r2.len]; exact q, fun p hp => h.pure0 k _ (r1.append r2) p hp⟩
  · exact h.bad.elim
/-- operators that make new lists -/
theorem binL_ok {X : Cx} (hK : X.K = G.K) (o : Op2) (ho : o = .add ∨ o = .mul) : ∃ r : R2, OpR X (binaryOp o.op) r ∧
    ∀ (z : List Addr) (W : Wd) (d1 d2 : D) (v1 v2 : V) (Q : VK) (Ex : Nat → List D → Wd → Prop), Mok G z W → RpW G z W d1 v1 → RpW G z W d2 v2 → Wp G z W (binopL o d1 d2) (WtL G z Q) Ex → r v1 v2 W.H Q := by
  rcases ho with rfl | rfl
  · refine ⟨_, op_cat, fun z W d1 d2 v1 v2 Q Ex k r1 r2 h => ?_⟩
    have h : Wp G z W ((seqL d1).bind fun xs => (seqL d2).bind fun ys => if xs.length + ys.length ≤ sizeLine then M.pure (xs ++ ys) else M.bad) (WtL G z Q) Ex := h
    obtain ⟨a, xs, vs, rfl, h1, h2, h3⟩ := seqL_ok k r1 h.bind
    obtain ⟨b, ys, us, rfl, g1, g2, g3⟩ := seqL_ok k r2 h3.bind
    obtain ⟨q1, q2⟩ := catL k h2 g2 g3
    exact ⟨a, b, vs, us, rfl, rfl, h1, g1, q1, q2⟩
  · refine ⟨_, op_rep, fun z W d1 d2 v1 v2 Q Ex k r1 r2 h => ?_⟩
    cases d2 with
    | int i =>
      have h : Wp G z W ((seqL d1).bind fun xs => if (-(2 ^ 63) ≤ i ∧ i < 2 ^ 63) ∧ xs.length * i.toNat ≤ sizeLine then M.pure (List.replicate i.toNat xs).flatten else M.bad) (WtL G z Q) Ex := h
      obtain ⟨a, xs, vs, rfl, h1, h2, h3⟩ := seqL_ok k r1 h.bind
      cases r2
      rcases h3.ite with ⟨q, h3⟩ | ⟨q, h3⟩
      · exact ⟨a, i, vs, rfl, rfl, h1, q.1.1, q.1.2, by rw [← h2.len]; exact q.2, fun p hp => h3.pure0 k _ (h2.rep _) p hp⟩
      · exact h3.bad.elim
    | _ => exact (show False from h).elim
/-- the datum of a new list -/
theorem datum_of {f : M (List D)} (h : Wp G z W (f.bind fun xs => M.pure (.lst xs)) (Wt G z Q) Ex) : Wp G z W f (WtL G z Q) Ex :=
  h.bind.mono (fun ds W1 k1 l1 h1 vs rv p hp => new_lst k1 rv h1 p hp) fun _ _ _ _ _ q => q
theorem add_cases {P : D → Wd → Prop} {a b : D} (h : Wp G z W (binop .add a b) P Ex) : (∃ i j, a = .int i ∧ b = .int j ∧ Wp G z W (M.pure (.int (i + j))) P Ex) ∨
    (∃ xs ys, a = .tup xs ∧ b = .tup ys ∧ Wp G z W (if xs.length + ys.length ≤ sizeLine then M.pure (.tup (xs ++ ys)) else M.bad) P Ex) ∨
    (∃ x y, a = .str x ∧ b = .str y ∧ Wp G z W (if x.length + y.length ≤ sizeLine then M.pure (.str (x ++ y)) else M.bad) P Ex) ∨
    Wp G z W ((binopL .add a b).bind fun xs => M.pure (.lst xs)) P Ex := by
  cases a <;> cases b <;> first
    | exact .inl ⟨_, _, rfl, rfl, h⟩
    | exact .inr (.inl ⟨_, _, rfl, rfl, h⟩)
    | exact .inr (.inr (.inl ⟨_, _, rfl, rfl, h⟩))
    | exact .inr (.inr (.inr h))
theorem mul_cases {P : D → Wd → Prop} {a b : D} (h : Wp G z W (binop .mul a b) P Ex) : (∃ i j, a = .int i ∧ b = .int j ∧ ((((-(2 ^ 64) < i ∧ i < 2 ^ 64) ∨ (-(2 ^ 64) < j ∧ j < 2 ^ 64)) ∨ i.natAbs.log2 + j.natAbs.log2 < 1000000) ∧ Wp G z W (M.pure (.int (i * j))) P Ex)) ∨
    (∃ xs k, a = .tup xs ∧ b = .int k ∧ Wp G z W (if k = 1 then M.pure (.tup xs) else if xs.isEmpty = false ∧ (2 ≤ k ∧ k ≤ 1000) ∧ xs.length ≤ 1000 then M.pure (.tup (List.replicate k.toNat xs).flatten) else M.bad) P Ex) ∨
    Wp G z W ((binopL .mul a b).bind fun xs => M.pure (.lst xs)) P Ex := by
  by_cases q : ∃ i j, a = .int i ∧ b = .int j
  · obtain ⟨i, j, rfl, rfl⟩ := q
    refine .inl ⟨i, j, rfl, rfl, ?_⟩
    have h : Wp G z W (if (decide (-(2 ^ 64) < i) && decide (i < 2 ^ 64)) || (decide (-(2 ^ 64) < j) && decide (j < 2 ^ 64)) then M.pure (.int (i * j)) else if i.natAbs.log2 + j.natAbs.log2 < 1000000 then M.pure (.int (i * j)) else M.bad) P Ex := h
    rcases h.ite with ⟨c, h⟩ | ⟨c, h⟩
    · refine ⟨.inl ?_, h⟩
      simpa only [Bool.or_eq_true, Bool.and_eq_true, decide_eq_true_eq] using c
    · rcases h.ite with ⟨c, h⟩ | ⟨c, h⟩
      · exact ⟨.inr c, h⟩
      · exact h.bad.elim
  · refine .inr ?_
    cases a <;> first
      | exact .inr h
      | (cases b <;> first | exact .inr h | exact .inl ⟨_, _, rfl, rfl, h⟩ | exact absurd ⟨_, _, rfl, rfl⟩ q)
theorem ints_cases {P : D → Wd → Prop} {a b : D} {o : Op2} (ho : o ≠ .add) (ho2 : o ≠ .mul) (h : Wp G z W (binop o a b) P Ex) : ∃ i j, a = .int i ∧ b = .int j := by
  cases a with
  | int i =>
    cases b with
    | int j => exact ⟨i, j, rfl, rfl⟩
    | _ => cases o <;> first | exact absurd rfl ho | exact absurd rfl ho2 | exact (show False from h).elim
  | _ => cases o <;> first | exact absurd rfl ho | exact absurd rfl ho2 | exact (show False from h).elim
theorem bin_ok {X : Cx} (hK : X.K = G.K) (o : Op2) : ∃ r : R2, OpR X (binaryOp o.op) r ∧
    ∀ (z : List Addr) (W : Wd) (d1 d2 : D) (v1 v2 : V) (Q : VK) (Ex : Nat → List D → Wd → Prop), Mok G z W → RpW G z W d1 v1 → RpW G z W d2 v2 → Wp G z W (binop o d1 d2) (Wt G z Q) Ex → r v1 v2 W.H Q := by
  by_cases ha : o = .add
  · subst ha
    obtain ⟨rl, hl, hl2⟩ := binL_ok (X := X) hK .add (.inl rfl)
    refine ⟨_, op_add.or (op_catA.or (op_add_str.or hl)), fun z W d1 d2 v1 v2 Q Ex k r1 r2 h => ?_⟩
    rcases add_cases h with ⟨i, j, rfl, rfl, h⟩ | ⟨xs, ys, rfl, rfl, h⟩ | ⟨x, y, rfl, rfl, h⟩ | h
    · cases r1
      cases r2
      exact .inl ⟨i, j, rfl, rfl, h.pure0 k _ (.int _)⟩
    · rcases h.ite with ⟨q, h⟩ | ⟨q, h⟩
      · cases r1 with
        | @tup a vs ds h1 g1 =>
          cases r2 with
          | @tup b us es h2 g2 =>
            refine .inr (.inl ⟨a, b, vs, us, rfl, rfl, ?_, ?_, by rw [← g1.len, ← g2.len]; exact q, fun e => ?_, fun _ e => ?_, fun _ _ => new_tup k (g1.append g2) h⟩)
            · rw [hK]; exact sqT_of h1
            · rw [hK]; exact sqT_of h2
            · subst e
              cases g1
              exact h.pure0 k _ (.tup h2 g2)
            · subst e
              cases g2
              rw [List.append_nil] at h
              exact h.pure0 k _ (.tup h1 g1)
      · exact h.bad.elim
    · rcases h.ite with ⟨q, h⟩ | ⟨q, h⟩
      · cases r1
        cases r2
        exact .inr (.inr (.inl ⟨x, y, rfl, rfl, q, h.pure0 k _ (.str _)⟩))
      · exact h.bad.elim
    · exact .inr (.inr (.inr (hl2 z W d1 d2 v1 v2 Q Ex k r1 r2 (datum_of h))))
  by_cases hm : o = .mul
  · subst hm
    obtain ⟨rl, hl, hl2⟩ := binL_ok (X := X) hK .mul (.inr rfl)
    refine ⟨_, op_mul.or (op_mulW.or (op_repT.or (L2H.op_rep1.or hl))), fun z W d1 d2 v1 v2 Q Ex k r1 r2 h => ?_⟩
    rcases mul_cases h with ⟨i, j, rfl, rfl, c, h⟩ | ⟨xs, c, rfl, rfl, h⟩ | h
    · cases r1
      cases r2
      rcases c with c | c
      · exact .inl ⟨i, j, rfl, rfl, c, h.pure0 k _ (.int _)⟩
      · exact .inr (.inl ⟨i, j, rfl, rfl, c, h.pure0 k _ (.int _)⟩)
    · cases r2
      cases r1 with
      | @tup a vs ds h1 g1 =>
        rcases h.ite with ⟨q, h⟩ | ⟨q, h⟩
        · subst q
          refine .inr (.inr (.inr (.inl ⟨a, vs, rfl, rfl, ?_, h.pure0 k _ (.tup h1 g1)⟩)))
          rw [hK]; exact sqT_of h1
        · rcases h.ite with ⟨q2, h⟩ | ⟨q2, h⟩
          · refine .inr (.inr (.inl ⟨a, c, vs, rfl, rfl, ?_, fun e => ?_, q2.2.1.1, q2.2.1.2, by rw [← g1.len]; exact q2.2.2, new_tup k ?_ h⟩))
            · rw [hK]; exact sqT_of h1
            · subst e
              cases g1
              exact absurd q2.1 (by simp)
            · exact g1.rep c.toNat
          · exact h.bad.elim
    · exact .inr (.inr (.inr (.inr (hl2 z W d1 d2 v1 v2 Q Ex k r1 r2 (datum_of h)))))
  cases o with
  | add => exact absurd rfl ha
  | mul => exact absurd rfl hm
  | sub =>
    refine ⟨_, op_sub, fun z W d1 d2 v1 v2 Q Ex k r1 r2 h => ?_⟩
    obtain ⟨i, j, rfl, rfl⟩ := ints_cases ha hm h
    cases r1
    cases r2
    exact ⟨i, j, rfl, rfl, h.pure0 k _ (.int _)⟩
  | fdiv =>
    refine ⟨_, op_fdivN.or L2H.op_fdivA, fun z W d1 d2 v1 v2 Q Ex k r1 r2 h => ?_⟩
    obtain ⟨i, j, rfl, rfl⟩ := ints_cases ha hm h
    cases r1
    cases r2
    have h : Wp G z W (if j ≠ 0 ∧ j.natAbs < 1073741824 then M.pure (.int (i.fdiv j)) else if j ≠ 0 ∧ j.natAbs.log2 < 9000 then M.pure (.int (i.fdiv j)) else M.bad) (Wt G z Q) Ex := h
    rcases h.ite with ⟨c, h⟩ | ⟨c, h⟩
    · exact .inl ⟨i, j, rfl, rfl, c, h.pure0 k _ (.int _)⟩
    · rcases h.ite with ⟨c, h⟩ | ⟨c, h⟩
      · exact .inr ⟨i, j, rfl, rfl, c, h.pure0 k _ (.int _)⟩
      · exact h.bad.elim
  | mod =>
    refine ⟨_, op_modN, fun z W d1 d2 v1 v2 Q Ex k r1 r2 h => ?_⟩
    obtain ⟨i, j, rfl, rfl⟩ := ints_cases ha hm h
    cases r1
    cases r2
    rcases (show Wp G z W (if j ≠ 0 then M.pure (.int (i.fmod j)) else M.bad) (Wt G z Q) Ex from h).ite with ⟨c, h⟩ | ⟨c, h⟩
    · exact ⟨i, j, rfl, rfl, c, h.pure0 k _ (.int _)⟩
    · exact h.bad.elim
  | pow =>
    refine ⟨_, op_pow, fun z W d1 d2 v1 v2 Q Ex k r1 r2 h => ?_⟩
    obtain ⟨i, j, rfl, rfl⟩ := ints_cases ha hm h
    cases r1
    cases r2
    rcases (show Wp G z W (if 0 ≤ j ∧ j ≤ 1000000 ∧ i.natAbs < 2 ^ 64 then M.pure (.int (i ^ j.toNat)) else M.bad) (Wt G z Q) Ex from h).ite with ⟨c, h⟩ | ⟨c, h⟩
    · exact ⟨i, j, rfl, rfl, c, h.pure0 k _ (.int _)⟩
    · exact h.bad.elim
  | shl =>
    refine ⟨_, op_shl, fun z W d1 d2 v1 v2 Q Ex k r1 r2 h => ?_⟩
    obtain ⟨i, j, rfl, rfl⟩ := ints_cases ha hm h
    cases r1
    cases r2
    rcases (show Wp G z W (if 0 ≤ j ∧ j ≤ 1000000 ∧ i.natAbs < 2 ^ 64 then M.pure (.int (i * 2 ^ j.toNat)) else M.bad) (Wt G z Q) Ex from h).ite with ⟨c, h⟩ | ⟨c, h⟩
    · exact ⟨i, j, rfl, rfl, c, h.pure0 k _ (.int _)⟩
    · exact h.bad.elim
  | shr =>
    refine ⟨_, op_shr, fun z W d1 d2 v1 v2 Q Ex k r1 r2 h => ?_⟩
    obtain ⟨i, j, rfl, rfl⟩ := ints_cases ha hm h
    cases r1
    cases r2
    rcases (show Wp G z W (if 0 ≤ j then M.pure (.int (i / 2 ^ j.toNat)) else M.bad) (Wt G z Q) Ex from h).ite with ⟨c, h⟩ | ⟨c, h⟩
    · exact ⟨i, j, rfl, rfl, c, h.pure0 k _ (.int _)⟩
    · exact h.bad.elim
  | band =>
    refine ⟨_, op_and, fun z W d1 d2 v1 v2 Q Ex k r1 r2 h => ?_⟩
    obtain ⟨i, j, rfl, rfl⟩ := ints_cases ha hm h
    cases r1
    cases r2
    exact ⟨i, j, rfl, rfl, h.pure0 k _ (.int _)⟩
  | bor =>
    refine ⟨_, op_or, fun z W d1 d2 v1 v2 Q Ex k r1 r2 h => ?_⟩
    obtain ⟨i, j, rfl, rfl⟩ := ints_cases ha hm h
    cases r1
    cases r2
    exact ⟨i, j, rfl, rfl, h.pure0 k _ (.int _)⟩
  | bxor =>
    refine ⟨_, op_xor, fun z W d1 d2 v1 v2 Q Ex k r1 r2 h => ?_⟩
    obtain ⟨i, j, rfl, rfl⟩ := ints_cases ha hm h
    cases r1
    cases r2
    exact ⟨i, j, rfl, rfl, h.pure0 k _ (.int _)⟩
theorem cmp_ints {P : D → Wd → Prop} {a b : D} {c : Cp} (hc : c = .lt ∨ c = .le ∨ c = .gt ∨ c = .ge) (h : Wp G z W (cmpop c a b) P Ex) : ∃ i j, a = .int i ∧ b = .int j := by
  cases a with
  | int i =>
    cases b with
    | int j => exact ⟨i, j, rfl, rfl⟩
    | _ => rcases hc with rfl | rfl | rfl | rfl <;> exact (show False from h).elim
  | _ => rcases hc with rfl | rfl | rfl | rfl <;> exact (show False from h).elim
theorem non_of {a : D} {v : V} (r : RpW G z W a v) : a.isNon = decide (v = .non) := by
  cases r <;> rfl
theorem cmp_ok {X : Cx} (hK : X.K = G.K) (hu : X.A.units + 64 < cLine) (c : Cp) : ∃ r : R2, OpR X (compareOp c.op) r ∧
    ∀ (z : List Addr) (W : Wd) (d1 d2 : D) (v1 v2 : V) (Q : VK) (Ex : Nat → List D → Wd → Prop), Mok G z W → RpW G z W d1 v1 → RpW G z W d2 v2 → Wp G z W (cmpop c d1 d2) (Wt G z Q) Ex → r v1 v2 W.H Q := by
  cases c with
  | eq =>
    refine ⟨_, op_eqD hu, fun z W d1 d2 v1 v2 Q Ex k r1 r2 h => ?_⟩
    obtain ⟨x1, p1, h⟩ := peek_ok k r1 (show Wp G z W ((peek d1).bind fun x => (peek d2).bind fun y => eqvM x y false) (Wt G z Q) Ex from h).bind
    obtain ⟨x2, p2, h⟩ := peek_ok k r2 h.bind
    unfold eqvM at h
    cases e : D.eqv x1 x2 with
    | none => rw [e] at h; exact h.bad.elim
    | some b =>
      rw [e] at h
      obtain ⟨x, y, h1, h2, h3, h4, h5⟩ := eqv_dp p1 p2 e
      refine ⟨x, y, ?_, ?_, h3, h4, ?_⟩
      · rw [hK]; exact h1
      · rw [hK]; exact h2
      · rw [h5]
        exact (show Wp G z W (M.pure (.bl b)) (Wt G z Q) Ex from h).pure0 k _ (.bl _)
  | ne =>
    refine ⟨_, op_neD hu, fun z W d1 d2 v1 v2 Q Ex k r1 r2 h => ?_⟩
    obtain ⟨x1, p1, h⟩ := peek_ok k r1 (show Wp G z W ((peek d1).bind fun x => (peek d2).bind fun y => eqvM x y true) (Wt G z Q) Ex from h).bind
    obtain ⟨x2, p2, h⟩ := peek_ok k r2 h.bind
    unfold eqvM at h
    cases e : D.eqv x1 x2 with
    | none => rw [e] at h; exact h.bad.elim
    | some b =>
      rw [e] at h
      obtain ⟨x, y, h1, h2, h3, h4, h5⟩ := eqv_dp p1 p2 e
      refine ⟨x, y, ?_, ?_, h3, h4, ?_⟩
      · rw [hK]; exact h1
      · rw [hK]; exact h2
      · rw [h5]
        exact (show Wp G z W (M.pure (.bl (!b))) (Wt G z Q) Ex from h).pure0 k _ (.bl _)
  | lt =>
    refine ⟨_, op_lt, fun z W d1 d2 v1 v2 Q Ex k r1 r2 h => ?_⟩
    obtain ⟨i, j, rfl, rfl⟩ := cmp_ints (.inl rfl) h
    cases r1
    cases r2
    exact ⟨i, j, rfl, rfl, h.pure0 k _ (.bl _)⟩
  | le =>
    refine ⟨_, op_le, fun z W d1 d2 v1 v2 Q Ex k r1 r2 h => ?_⟩
    obtain ⟨i, j, rfl, rfl⟩ := cmp_ints (.inr (.inl rfl)) h
    cases r1
    cases r2
    exact ⟨i, j, rfl, rfl, h.pure0 k _ (.bl _)⟩
  | gt =>
    refine ⟨_, op_gt, fun z W d1 d2 v1 v2 Q Ex k r1 r2 h => ?_⟩
    obtain ⟨i, j, rfl, rfl⟩ := cmp_ints (.inr (.inr (.inl rfl))) h
    cases r1
    cases r2
    exact ⟨i, j, rfl, rfl, h.pure0 k _ (.bl _)⟩
  | ge =>
    refine ⟨_, op_ge, fun z W d1 d2 v1 v2 Q Ex k r1 r2 h => ?_⟩
    obtain ⟨i, j, rfl, rfl⟩ := cmp_ints (.inr (.inr (.inr rfl))) h
    cases r1
    cases r2
    exact ⟨i, j, rfl, rfl, h.pure0 k _ (.bl _)⟩
  | isN =>
    refine ⟨_, op_isN, fun z W d1 d2 v1 v2 Q Ex k r1 r2 h => ?_⟩
    cases d2 with
    | non =>
      cases r2
      refine ⟨rfl, ?_⟩
      rw [← non_of r1]
      exact h.pure0 k _ (.bl _)
    | _ => exact (show False from h).elim
  | notN =>
    refine ⟨_, op_notN, fun z W d1 d2 v1 v2 Q Ex k r1 r2 h => ?_⟩
    cases d2 with
    | non =>
      cases r2
      refine ⟨rfl, ?_⟩
      rw [← non_of r1]
      exact h.pure0 k _ (.bl _)
    | _ => exact (show False from h).elim
  | isB =>
    refine ⟨_, op_isBl, fun z W d1 d2 v1 v2 Q Ex k r1 r2 h => ?_⟩
    cases d1 with
    | bl a =>
      cases d2 with
      | bl b =>
        cases r1
        cases r2
        exact ⟨a, b, rfl, rfl, (show Wp G z W (M.pure (.bl (decide (a = b)))) (Wt G z Q) Ex from h).pure0 k _ (.bl _)⟩
      | _ => exact (show False from h).elim
    | _ => exact (show False from by cases d2 <;> exact h).elim
  | notB =>
    refine ⟨_, op_notBl, fun z W d1 d2 v1 v2 Q Ex k r1 r2 h => ?_⟩
    cases d1 with
    | bl a =>
      cases d2 with
      | bl b =>
        cases r1
        cases r2
        exact ⟨a, b, rfl, rfl, (show Wp G z W (M.pure (.bl (!decide (a = b)))) (Wt G z Q) Ex from h).pure0 k _ (.bl _)⟩
      | _ => exact (show False from h).elim
    | _ => exact (show False from by cases d2 <;> exact h).elim
  | mem =>
    refine ⟨_, op_in_seq, fun z W d1 d2 v1 v2 Q Ex k r1 r2 h => ?_⟩
    have h : Wp G z W ((seqA d2).bind fun xs => if d1.flat && xs.all D.flat then M.pure (.bl (xs.any fun y => D.eqF y d1)) else M.bad) (Wt G z Q) Ex := h
    obtain ⟨a, xs, vs, rfl, h1, h2, h3, _⟩ := seqA_ok k r2 h.bind
    rcases h3.ite with ⟨q, h⟩ | ⟨q, h⟩
    · simp only [Bool.and_eq_true] at q
      refine ⟨a, vs, rfl, ?_, flat_of r1 q.1, flats_of h2 q.2, ?_⟩
      · rw [hK]; exact h1
      · rw [if_neg Bool.false_ne_true, inV_of r1 q.1 h2 q.2]
        exact h.pure0 k _ (.bl _)
    · exact h.bad.elim
  | nmem =>
    refine ⟨_, op_notIn_seq, fun z W d1 d2 v1 v2 Q Ex k r1 r2 h => ?_⟩
    have h : Wp G z W ((seqA d2).bind fun xs => if d1.flat && xs.all D.flat then M.pure (.bl !(xs.any fun y => D.eqF y d1)) else M.bad) (Wt G z Q) Ex := h
    obtain ⟨a, xs, vs, rfl, h1, h2, h3, _⟩ := seqA_ok k r2 h.bind
    rcases h3.ite with ⟨q, h⟩ | ⟨q, h⟩
    · simp only [Bool.and_eq_true] at q
      refine ⟨a, vs, rfl, ?_, flat_of r1 q.1, flats_of h2 q.2, ?_⟩
      · rw [hK]; exact h1
      · rw [if_pos rfl, inV_of r1 q.1 h2 q.2]
        exact h.pure0 k _ (.bl _)
    · exact h.bad.elim
end
end DL
/-! DL6: built-ins; what a context must give -/
namespace DL
open PySem PyProof.Rows L2 PySem.Spec

def spD (G : Gx) (n : Nat) (f : List D → M D) : Sp := fun vs H Q E => ∃ z ds W, W.H = H ∧ vs.length = n ∧ Mok G z W ∧ RpsW G z W ds vs ∧
  Wp G z W (f ds) (Wt G z Q) (fun c xs W' => ∀ d, ExR G z xs d W' → E (.ref (G.ca c)) d W'.H)
def builtins : List Str := ["len", "abs", "sum", "min", "max", "int", "list", "tuple", "isinstance", "all", "any", "range", "enumerate", "zip", "bool", "str"]
/-- a def that tries what it got: x(lambda: ..); c: what it answers -/
structure ErrK (G : Gx) (P : Program) (w : World) (K : PySem.W.Frag) (mg : Str → Option Value) (base : Heap) (c : List D → M D) (x : Str) : Prop where
  ex : ∃ (a : Str) (g : Addr) (pg : Arguments) (bg : List Stmt) (sg : Scope) (dV kV doc pm cdv ct oc : Value) (an od : Option Addr) (osl : Array (Option Value)) (Ng : List Str) (TT : (XK → Hp → VK → Prop) → Hp → VK → Prop),
    mg x = some (.ref g) ∧ PySem.W.keepIn K (.ref g) = true ∧ K.lookup g = some ⟨oc, od, .func (PySem.W.fnOf x x pg bg sg dV kV doc pm an cdv ct), osl⟩ ∧ PySem.W.codeIn K cdv x = true ∧ Binds K (PySem.W.fnOf x x pg bg sg dV kV doc pm an cdv ct) [a] [] ∧
    FnScope Ng [a] sg ∧ Ng[0]? = some a ∧ Vis sg a ∧ okNm a = true ∧
    (∀ (X : Cx) (k : Nat) (q : Str), X.prog = P → X.w = w → X.K = K → X.mg = mg → X.base = base → LX.Gives X k Ng x sg g cdv bg a q TT) ∧
    ∀ (z : List Addr) (W1 : Wd) (m : M D) (tl : XK → Hp → VK → Prop) (Q : VK) (Ex : Nat → List D → Wd → Prop), Mok G z W1 → Wp G z W1 (errM m c) (Wt G z Q) Ex →
      (∀ (E : XK) (Q' : VK), Wp G z W1 m (Wt G z Q') (fun c xs W' => ∀ d, ExR G z xs d W' → E (.ref (G.ca c)) d W'.H) → tl E W1.H Q') → TT tl W1.H Q
/-- what a context gives to checked text -/
structure Good (G : Gx) (C : Nat → List D → M D) (Kc : Nat → D) (Γ : Cxt) (X : Cx) (Wx : WX) : Prop where
  K : X.K = G.K
  N : X.N = Γ.N
  nd : Γ.N.Nodup
  sc : X.env.scope = Γ.sc
  calm : Γ.hot = false → X.calm = true
  hotc : Γ.hot = true → L2H.HotC X
  fn : X.fn = (match Γ.own with
    | none => fun _ => true
    | some s => fun x => s.names.lookup x == some .cell)
  tk : L2N.Takes X Wx
  room : X.A.units + 64 < cLine
  bi : ∀ x ∈ builtins, X.mg x = none
  con : ∀ k x, Γ.cns[k]? = some x → ∃ v u, X.mg x = some u ∧ RelV v u ∧ ∀ F m, Rp G F m (Kc k) v
  gcd : Γ.gcd = true → X.mg "gcd" = some (.builtin "math.gcd")
  fns : ∀ k x n, Γ.fns[k]? = some (x, n) → X.mg x = some (.ref (G.fa k)) ∧ PySem.W.keepIn X.K (.ref (G.fa k)) = true
  arity : ∀ k x n, Γ.fns[k]? = some (x, n) → ∀ (z : List Addr) (W : Wd) (ds : List D) (P : D → Wd → Prop) (Ex : Nat → List D → Wd → Prop), Wp G z W (C k ds) P Ex → ds.length = n
  nf : ∀ k x n, Γ.fns[k]? = some (x, n) → k < G.nf
  fnr : Γ.hot = false → ∀ k, k < G.nf → ∃ x n, Γ.fns[k]? = some (x, n)
  calls : Γ.hot = false → ∃ j, Room (if Γ.lam = true then j + 2 else j) X.A ∧ ∀ k x n, Γ.fns[k]? = some (x, n) → ∃ fd ps, Binds X.K fd ps [] ∧ FnOk X.prog X.w X.K X.mg X.base (L2N.CX X.prog X.w) j (G.fa k) fd ps (spD G n (C k))
  lamc : Γ.lam = true → ∃ c P, X.env.code = .ref c ∧ LamX.TabB X.base X.mg c P ∧ (P, LX.lamQ X) ∈ G.T ∧ ∀ p ∈ G.T, p.1 = P → p.2 = LX.lamQ X
  errs : ∀ k x, Γ.ers.lookup k = some x → ErrK G X.prog X.w X.K X.mg X.base (C k) x
  exk : ∀ j x f, Γ.exs[j]? = some (x, f) → X.mg x = some (.ref (G.ca j))
  exr : ∀ j x, Γ.exs[j]? = some (x, true) → PySem.W.excIn X.K (G.ca j) He.veBase "ValueError.__new__" = true ∧ PySem.W.keepIn X.K (.ref (G.ca j)) = true ∧ Raises X (.ref (G.ca j))
  hx : Γ.hot = true → Γ.own = none → ∃ (a Dc : Addr) (c : Nat), G.xa = some a ∧ Kc xk = .int c ∧ CallR X (.builtin "isinstance") (rIsE X.K Dc a) ∧ ∀ q x f, Γ.exs[q]? = some (x, f) → PySem.W.kitOne X.K (.ref Dc) (.ref (G.ca q)) = some (c == q)

theorem gl_of {X : Cx} {sc : Scope} {x : Str} (h : X.env.scope = sc) (g : glB sc x = true) : Gl X x := by
  unfold glB at g
  show X.env.scope.names.lookup x = _
  rw [h]
  split at g
  · assumption
  · cases g
theorem vis_of {X : Cx} {sc : Scope} {x : Str} (h : X.env.scope = sc) (g : visB sc x = true) : Vis X.env.scope x := by
  unfold visB at g
  rw [h]
  split at g
  · exact .inl (by assumption)
  · exact .inr (.inl (by assumption))
  · exact .inr (.inr (by assumption))
  · cases g
theorem nm_of {x : Str} (h : okNm x = true) : (x == ("__debug__" : Str)) = false ∧ (x == ("__classdict__" : Str)) = false := by
  unfold okNm at h
  simpa only [Bool.and_eq_true, Bool.not_eq_true'] using h
theorem kit_all : ∀ t ∈ ["NoneType", "bool", "int", "str", "tuple", "list"], ∀ n ∈ ["bool", "int", "str", "tuple", "list"], kitB t n = some (isTy t n) := by decide +kernel
theorem tyOk_mem {n : String} (h : tyOk n = true) : n ∈ ["bool", "int", "str", "tuple", "list"] := by
  unfold tyOk at h
  simp only [Bool.or_eq_true, beq_iff_eq] at h
  rcases h with (((h | h) | h) | h) | h <;> subst h <;> decide
section
variable {G : Gx} {z : List Addr} {W : Wd} {Q : VK} {Ex : Nat → List D → Wd → Prop}
theorem tyX_of {d : D} {v : V} {t : String} (r : RpW G z W d v) (h : tyName d = some t) : t ∈ ["NoneType", "bool", "int", "str", "tuple", "list"] ∧ TyX G.K W.H v (.type t) := by
  cases r with
  | non => cases h; exact ⟨by decide, .base .non⟩
  | bl b => cases h; exact ⟨by decide, .base (.bl b)⟩
  | int i => cases h; exact ⟨by decide, .base (.int i)⟩
  | str x => cases h; exact ⟨by decide, .base (.str x)⟩
  | lst h1 h2 => cases h; exact ⟨by decide, .base (.lst (F_sub h1))⟩
  | tup h1 h2 =>
    cases h
    refine ⟨by decide, ?_⟩
    rcases sqT_of h1 with (q | ⟨o, q⟩) | ⟨o, its, n, q1, q2, _⟩
    · exact .base (.tup q)
    · exact .fTuple q
    · exact .kTuple q1 q2
  | ref _ => cases h
  | fn _ _ => cases h
  | cls _ => cases h
  | ty _ => cases h
  | scr _ => cases h
  | exn _ => cases h
theorem rps1 {ds : List D} {v : V} {vs : List V} (r : RpsW G z W ds (v :: vs)) : ∃ d es, ds = d :: es ∧ RpW G z W d v ∧ RpsW G z W es vs := by
  cases r with
  | cons h t => exact ⟨_, _, rfl, h, t⟩
theorem ints_rep : ∀ ns : List Int, RpsW G z W (ns.map D.int) (ns.map V.int)
  | [] => .nil
  | n :: ns => .cons (.int n) (ints_rep ns)
theorem bfL_ok {X : Cx} (hK : X.K = G.K) {d : D} {v : V} (k : Mok G z W) (rv : RpW G z W d v) (h : Wp G z W (bfL .list [d]) (WtL G z Q) Ex) :
    ∃ p ys, [v] = [V.ref p] ∧ (SqL X.K W.H p ys ∨ SqT X.K W.H p ys) ∧ ∀ l, W.H l = none → Q (.ref l) (upd W.H l (.lst ys)) := by
  rw [hK]
  have gen : Wp G z W (seqA d) (WtL G z Q) Ex → ∃ p ys, [v] = [V.ref p] ∧ (SqL G.K W.H p ys ∨ SqT G.K W.H p ys) ∧ ∀ l, W.H l = none → Q (.ref l) (upd W.H l (.lst ys)) := fun h => by
    obtain ⟨a, xs, vs, rfl, h1, h2, h3, _⟩ := seqA_ok k rv h
    exact ⟨a, vs, rfl, h1, fun p hp => h3 vs h2 p hp⟩
  cases d with
  | scr ns =>
    cases rv with
    | @scr a _ h1 => exact ⟨a, _, rfl, .inl (sqL_of h1), fun p hp => (show Wp G z W (M.pure (ns.map D.int)) _ _ from h).pure0 k _ (ints_rep ns) p hp⟩
  | _ => exact gen h
/-! ### the best of alike data -/
mutual
theorem py_inj : ∀ (a b : D) {x : PyData}, a.py = some x → b.py = some x → a = b
  | .non, b, x, h1, h2 => by
    cases h1
    cases b <;> simp only [D.py] at h2 <;> first
      | rfl
      | (cases h2; done)
      | (split at h2 <;> cases h2)
  | .bl p, b, x, h1, h2 => by
    cases h1
    cases b <;> simp only [D.py] at h2 <;> first
      | (cases h2; rfl)
      | (cases h2; done)
      | (split at h2 <;> cases h2)
  | .int p, b, x, h1, h2 => by
    cases h1
    cases b <;> simp only [D.py] at h2 <;> first
      | (cases h2; rfl)
      | (cases h2; done)
      | (split at h2 <;> cases h2)
  | .str p, b, x, h1, h2 => by
    cases h1
    cases b <;> simp only [D.py] at h2 <;> first
      | (cases h2; rfl)
      | (cases h2; done)
      | (split at h2 <;> cases h2)
  | .tup xs, b, x, h1, h2 => by
    simp only [D.py] at h1
    cases e1 : D.pys xs with
    | none => rw [e1] at h1; cases h1
    | some us =>
      rw [e1] at h1
      cases h1
      cases b with
      | tup ys =>
        simp only [D.py] at h2
        cases e2 : D.pys ys with
        | none => rw [e2] at h2; cases h2
        | some vs =>
          rw [e2] at h2
          have e3 : vs = us := by simpa using h2
          subst e3
          rw [pys_inj xs ys e1 e2]
      | _ =>
        simp only [D.py] at h2
        first
          | (cases h2; done)
          | (split at h2 <;> cases h2)
  | .lst xs, b, x, h1, h2 => by
    simp only [D.py] at h1
    cases e1 : D.pys xs with
    | none => rw [e1] at h1; cases h1
    | some us =>
      rw [e1] at h1
      cases h1
      cases b with
      | lst ys =>
        simp only [D.py] at h2
        cases e2 : D.pys ys with
        | none => rw [e2] at h2; cases h2
        | some vs =>
          rw [e2] at h2
          have e3 : vs = us := by simpa using h2
          subst e3
          rw [pys_inj xs ys e1 e2]
      | _ =>
        simp only [D.py] at h2
        first
          | (cases h2; done)
          | (split at h2 <;> cases h2)
  | .ref _, b, x, h1, h2 => by cases h1
  | .fn _, b, x, h1, h2 => by cases h1
  | .cls _, b, x, h1, h2 => by cases h1
  | .ty _, b, x, h1, h2 => by cases h1
  | .scr _, b, x, h1, h2 => by cases h1
  | .exn, b, x, h1, h2 => by cases h1
theorem pys_inj : ∀ (a b : List D) {x : List PyData}, D.pys a = some x → D.pys b = some x → a = b
  | [], [], _, _, _ => rfl
  | a :: as, [], x, h1, h2 => by
    cases h2
    simp only [D.pys] at h1
    split at h1 <;> cases h1
  | [], b :: bs, x, h1, h2 => by
    cases h1
    simp only [D.pys] at h2
    split at h2 <;> cases h2
  | a :: as, b :: bs, x, h1, h2 => by
    simp only [D.pys] at h1 h2
    split at h1
    · rename_i u us e1 e2
      split at h2
      · rename_i v vs e3 e4
        cases h1
        have e5 : v = u ∧ vs = us := by simpa using h2
        obtain ⟨rfl, rfl⟩ := e5
        rw [py_inj a b e1 e3, pys_inj as bs e2 e4]
      · cases h2
    · cases h1
end
theorem bestD_py {lt : PyData → PyData → Bool} : ∀ (xs : List D) (ps : List PyData) (x : D) (p : PyData), x.py = some p → D.pys xs = some ps → (bestD lt x p xs ps).py = some (ps.foldl (fun a y => if lt y a = true then y else a) p)
  | [], ps, x, p, h1, h2 => by
    cases h2
    exact h1
  | y :: ys, ps, x, p, h1, h2 => by
    simp only [D.pys] at h2
    split at h2
    · rename_i q qs e3 e4
      cases h2
      rw [List.foldl_cons]
      show (if lt q p then bestD lt y q ys qs else bestD lt x p ys qs).py = _
      cases c : lt q p with
      | true =>
        rw [if_pos rfl, if_pos rfl]
        exact bestD_py ys qs y q e3 e4
      | false =>
        rw [if_neg Bool.false_ne_true, if_neg Bool.false_ne_true]
        exact bestD_py ys qs x p h1 e4
    · cases h2
theorem alikeL_ok {xs : List PyData} (h : alikeL xs = true) : PySem.W.AlikeAll xs := by
  unfold alikeL at h
  simp only [Bool.and_eq_true, List.all_eq_true] at h
  refine ⟨fun x hx y hy => h.1 x hx y hy, fun x hx e => ?_⟩
  have := h.2 x hx
  subst e
  cases this
theorem bestOf_at {lt : PyData → PyData → Bool} {xs : List D} {m : D} (h : bestOf lt xs = some m) :
    ∃ x xs' p ps, xs = x :: xs' ∧ x.py = some p ∧ D.pys xs' = some ps ∧ PySem.W.AlikeAll (p :: ps) ∧ PyData.depthAll (p :: ps) ≤ 50 ∧ m = bestD lt x p xs' ps := by
  cases xs with
  | nil => cases h
  | cons x xs =>
    unfold bestOf at h
    simp only [D.pys] at h
    cases e1 : x.py with
    | none => rw [e1] at h; cases h
    | some p =>
      cases e2 : D.pys xs with
      | none => rw [e1, e2] at h; cases h
      | some ps =>
        rw [e1, e2] at h
        dsimp only at h
        split at h
        · rename_i c
          simp only [Bool.and_eq_true] at c
          cases h
          exact ⟨x, xs, p, ps, rfl, e1, e2, alikeL_ok c.1, of_decide_eq_true c.2, rfl⟩
        · cases h
theorem rps_at {ds : List D} {vs : List V} (r : RpsW G z W ds vs) : ∀ (i : Nat) (v : V), vs[i]? = some v → ∃ d, ds[i]? = some d ∧ RpW G z W d v := by
  induction vs generalizing ds with
  | nil => intro i v h; simp at h
  | cons u us ih =>
    obtain ⟨d, es, rfl, r1, r2⟩ := rps1 r
    intro i v h
    cases i with
    | zero =>
      cases (show some _ = some v from h)
      exact ⟨d, rfl, r1⟩
    | succ i =>
      obtain ⟨e, h1, h2⟩ := ih r2 i v (by simpa using h)
      exact ⟨e, by simpa using h1, h2⟩
theorem pys_at : ∀ {ds : List D} {ps : List PyData} (i : Nat) {d : D} {p : PyData}, D.pys ds = some ps → ds[i]? = some d → ps[i]? = some p → d.py = some p
  | [], _, i, d, p, _, h2, _ => by simp at h2
  | e :: es, ps, i, d, p, h1, h2, h3 => by
    simp only [D.pys] at h1
    split at h1
    · rename_i u us e1 e2
      cases h1
      cases i with
      | zero =>
        cases (show some _ = some d from h2)
        cases (show some _ = some p from h3)
        exact e1
      | succ i => exact pys_at i e2 (by simpa using h2) (by simpa using h3)
    · cases h1
theorem best_rep {lt : PyData → PyData → Bool} {x m : D} {xs : List D} {p : PyData} {ps : List PyData} {us : List V} {i : Nat} {w : V} (e1 : x.py = some p) (e2 : D.pys xs = some ps) (r : RpsW G z W (x :: xs) us) (hm : m = bestD lt x p xs ps) (hi : us[i]? = some w)
    (hw : (p :: ps)[i]? = some (ps.foldl (fun a y => if lt y a = true then y else a) p)) : RpW G z W m w := by
  obtain ⟨d, h1, h2⟩ := rps_at r i w hi
  have h3 := pys_at i (show D.pys (x :: xs) = some (p :: ps) by simp [D.pys, e1, e2]) h1 hw
  have h4 := bestD_py (lt := lt) xs ps x p e1 e2
  rw [← hm] at h4
  rw [py_inj m d h4 h3]
  exact h2
/-- a built-in's call -/
theorem bf_ok {X : Cx} {Γ : Cxt} {C : Nat → List D → M D} {Kc : Nat → D} {Wx : WX} (g : Good G C Kc Γ X Wx) (f : Bf) (hf : bfOk Γ f = true) {t : TA} {p pos : Pos} {e : Expr} {es : List Expr} (hg : Gl X f.name) (ha : PA X (e :: es) t)
    (hs : starEach (e :: es) X.env = (false, eval e X.env) :: starEach es X.env) (hpl : (backTo pos (starEach es X.env)).any (·.1) = false) :
    ∃ r, PE X (.Call (.Name f.name p) (e :: es) [] pos) (tCB r t) ∧
    ∀ (z : List Addr) (W : Wd) (ds : List D) (vs : List V) (Q : VK) (Ex : Nat → List D → Wd → Prop), Mok G z W → RpsW G z W ds vs → Wp G z W (bfop f ds) (Wt G z Q) Ex → r vs W.H Q := by
  have hK := g.K
  cases f with
  | len =>
    refine ⟨_, pe_callB call_len_seq hg (g.bi _ (by decide)) boot_len ha (by decide) (by decide) hs hpl, fun z W ds vs Q Ex k r h => ?_⟩
    match ds, r, h with
    | [d], .cons (v := v) rv .nil, h =>
      obtain ⟨a, xs, us, rfl, h1, h2, h3, _⟩ := seqA_ok k rv (show Wp G z W ((seqA d).bind fun xs => M.pure (.int xs.length)) (Wt G z Q) Ex from h).bind
      refine ⟨a, us, rfl, ?_, ?_⟩
      · rw [hK]; exact h1
      · rw [← h2.len]
        exact h3.pure0 k _ (.int _)
    | [], .nil, h => exact (show False from h).elim
    | _ :: _ :: _, _, h => exact (show False from h).elim
  | abs =>
    refine ⟨_, pe_callB call_abs hg (g.bi _ (by decide)) boot_abs ha (by decide) (by decide) hs hpl, fun z W ds vs Q Ex k r h => ?_⟩
    match ds, r, h with
    | [.int i], .cons (.int _) .nil, h => exact ⟨i, rfl, h.pure0 k _ (.int _)⟩
    | [], .nil, h => exact (show False from h).elim
    | .int _ :: _ :: _, _, h => exact (show False from h).elim
    | .non :: _, _, h => exact (show False from h).elim
    | .bl _ :: _, _, h => exact (show False from h).elim
    | .str _ :: _, _, h => exact (show False from h).elim
    | .tup _ :: _, _, h => exact (show False from h).elim
    | .lst _ :: _, _, h => exact (show False from h).elim
    | .ref _ :: _, _, h => exact (show False from h).elim
    | .fn _ :: _, _, h => exact (show False from h).elim
    | .cls _ :: _, _, h => exact (show False from h).elim
    | .ty _ :: _, _, h => exact (show False from h).elim
    | .scr _ :: _, _, h => exact (show False from h).elim
    | .exn :: _, _, h => exact (show False from h).elim
  | int =>
    refine ⟨_, pe_callTy call_int1 hg (g.bi _ (by decide)) boot_int ha (by decide) (by decide) hs hpl, fun z W ds vs Q Ex k r h => ?_⟩
    match ds, r, h with
    | [.int i], .cons (.int _) .nil, h => exact .inl ⟨i, rfl, h.pure0 k _ (.int _)⟩
    | [], .nil, h => exact (show False from h).elim
    | .int _ :: _ :: _, _, h => exact (show False from h).elim
    | .non :: _, _, h => exact (show False from h).elim
    | .bl _ :: _, _, h => exact (show False from h).elim
    | .str _ :: _, _, h => exact (show False from h).elim
    | .tup _ :: _, _, h => exact (show False from h).elim
    | .lst _ :: _, _, h => exact (show False from h).elim
    | .ref _ :: _, _, h => exact (show False from h).elim
    | .fn _ :: _, _, h => exact (show False from h).elim
    | .cls _ :: _, _, h => exact (show False from h).elim
    | .ty _ :: _, _, h => exact (show False from h).elim
    | .scr _ :: _, _, h => exact (show False from h).elim
    | .exn :: _, _, h => exact (show False from h).elim
  | min2 =>
    refine ⟨_, pe_callB (call_min2 (g.calm (by simpa [bfOk] using hf))) hg (g.bi _ (by decide)) boot_min ha (by decide) (by decide) hs hpl, fun z W ds vs Q Ex k r h => ?_⟩
    have q : ∃ i j, ds = [.int i, .int j] := by
      match ds, h with
      | [], h => exact (show False from h).elim
      | [d], h => cases d <;> exact (show False from h).elim
      | [d, e], h => cases d <;> cases e <;> first | exact ⟨_, _, rfl⟩ | exact (show False from h).elim
      | d :: e :: _ :: _, h => cases d <;> cases e <;> exact (show False from h).elim
    obtain ⟨i, j, rfl⟩ := q
    match r with
    | .cons (.int _) (.cons (.int _) .nil) => exact ⟨i, j, rfl, h.pure0 k _ (.int _)⟩
  | max2 =>
    refine ⟨_, pe_callB (call_max2 (g.calm (by simpa [bfOk] using hf))) hg (g.bi _ (by decide)) boot_max ha (by decide) (by decide) hs hpl, fun z W ds vs Q Ex k r h => ?_⟩
    have q : ∃ i j, ds = [.int i, .int j] := by
      match ds, h with
      | [], h => exact (show False from h).elim
      | [d], h => cases d <;> exact (show False from h).elim
      | [d, e], h => cases d <;> cases e <;> first | exact ⟨_, _, rfl⟩ | exact (show False from h).elim
      | d :: e :: _ :: _, h => cases d <;> cases e <;> exact (show False from h).elim
    obtain ⟨i, j, rfl⟩ := q
    match r with
    | .cons (.int _) (.cons (.int _) .nil) => exact ⟨i, j, rfl, h.pure0 k _ (.int _)⟩
  | gcd =>
    refine ⟨_, pe_callBfun cr_gcd hg (g.gcd hf) ha (by decide) hs hpl, fun z W ds vs Q Ex k r h => ?_⟩
    have q : ∃ i j, ds = [.int i, .int j] := by
      match ds, h with
      | [], h => exact (show False from h).elim
      | [d], h => cases d <;> exact (show False from h).elim
      | [d, e], h => cases d <;> cases e <;> first | exact ⟨_, _, rfl⟩ | exact (show False from h).elim
      | d :: e :: _ :: _, h => cases d <;> cases e <;> exact (show False from h).elim
    obtain ⟨i, j, rfl⟩ := q
    match r with
    | .cons (.int _) (.cons (.int _) .nil) => exact ⟨i, j, rfl, h.pure0 k _ (.int _)⟩
  | sum =>
    refine ⟨_, pe_callB (L2H.cr_sumA (g.calm (by simpa [bfOk] using hf))) hg (g.bi _ (by decide)) boot_sum ha (by decide) (by decide) hs hpl, fun z W ds vs Q Ex k r h => ?_⟩
    match ds, r, h with
    | [d], .cons (v := v) rv .nil, h =>
      obtain ⟨a, xs, us, rfl, h1, h2, h3, _⟩ := seqA_ok k rv (show Wp G z W ((seqA d).bind fun xs => (M.opt (intsOf xs)).bind fun is => M.pure (.int is.sum)) (Wt G z Q) Ex from h).bind
      obtain ⟨is, e, h4⟩ := h3.bind.opt k
      refine ⟨a, is, rfl, ?_, h4.pure0 k _ (.int _)⟩
      rw [← ints_of h2 e, hK]
      exact h1
    | [], .nil, h => exact (show False from h).elim
    | _ :: _ :: _, _, h => exact (show False from h).elim
  | min1 =>
    refine ⟨_, pe_callB (L2H.cr_minA (g.calm (by simpa [bfOk] using hf)) (by have := g.room; omega)) hg (g.bi _ (by decide)) boot_min ha (by decide) (by decide) hs hpl, fun z W ds vs Q Ex k r h => ?_⟩
    match ds, r, h with
    | [d], .cons (v := v) rv .nil, h =>
      obtain ⟨a, xs, us, rfl, h1, h2, h3, _⟩ := seqA_ok k rv (show Wp G z W ((seqA d).bind fun xs => (M.opt (intsOf xs)).bind fun is => (M.opt is.min?).bind fun i => M.pure (.int i)) (Wt G z Q) Ex from h).bind
      obtain ⟨is, e, h4⟩ := h3.bind.opt k
      obtain ⟨i, e2, h5⟩ := h4.bind.opt k
      refine ⟨a, is, rfl, ?_, ?_, fun m hm hle => ?_⟩
      · rw [← ints_of h2 e, hK]
        exact h1
      · cases is with
        | nil => cases e2
        | cons _ _ => exact Nat.succ_pos _
      · obtain ⟨i1, i2⟩ := List.min?_eq_some_iff.mp e2
        have em : m = i := Int.le_antisymm (hle i i1) (i2 m hm)
        rw [em]
        exact h5.pure0 k _ (.int _)
    | [], .nil, h => exact (show False from h).elim
    | _ :: _ :: _, _, h => exact (show False from h).elim
  | max1 =>
    refine ⟨_, pe_callB (L2H.cr_maxA (g.calm (by simpa [bfOk] using hf)) (by have := g.room; omega)) hg (g.bi _ (by decide)) boot_max ha (by decide) (by decide) hs hpl, fun z W ds vs Q Ex k r h => ?_⟩
    match ds, r, h with
    | [d], .cons (v := v) rv .nil, h =>
      obtain ⟨a, xs, us, rfl, h1, h2, h3, _⟩ := seqA_ok k rv (show Wp G z W ((seqA d).bind fun xs => (M.opt (intsOf xs)).bind fun is => (M.opt is.max?).bind fun i => M.pure (.int i)) (Wt G z Q) Ex from h).bind
      obtain ⟨is, e, h4⟩ := h3.bind.opt k
      obtain ⟨i, e2, h5⟩ := h4.bind.opt k
      refine ⟨a, is, rfl, ?_, ?_, fun m hm hle => ?_⟩
      · rw [← ints_of h2 e, hK]
        exact h1
      · cases is with
        | nil => cases e2
        | cons _ _ => exact Nat.succ_pos _
      · obtain ⟨i1, i2⟩ := List.max?_eq_some_iff.mp e2
        have em : m = i := Int.le_antisymm (i2 m hm) (hle i i1)
        rw [em]
        exact h5.pure0 k _ (.int _)
    | [], .nil, h => exact (show False from h).elim
    | _ :: _ :: _, _, h => exact (show False from h).elim
  | minD =>
    refine ⟨_, pe_callB (L2H.cr_minD (g.calm (by simpa [bfOk] using hf)) g.room) hg (g.bi _ (by decide)) boot_min ha (by decide) (by decide) hs hpl, fun z W ds vs Q Ex k r h => ?_⟩
    match ds, r, h with
    | [d], .cons (v := v) rv .nil, h =>
      obtain ⟨a, xs, us, rfl, h1, h2, h3, _⟩ := seqA_ok k rv (show Wp G z W ((seqA d).bind fun xs => M.opt (bestOf (fun y a => PySem.W.dataLt y a) xs)) (Wt G z Q) Ex from h).bind
      obtain ⟨m, e, h4⟩ := h3.opt k
      obtain ⟨x, xs', p, ps, rfl, e1, e2, ha, hdep, hm⟩ := bestOf_at e
      refine ⟨a, us, p, ps, rfl, ?_, ?_, ha, hdep, fun i w hi hw => ?_⟩
      · rw [hK]
        exact h1
      · rw [hK]
        exact dps_of trivial h2 (show D.pys (x :: xs') = some (p :: ps) by simp [D.pys, e1, e2])
      · exact h4 w (best_rep e1 e2 h2 hm hi hw)
    | [], .nil, h => exact (show False from h).elim
    | _ :: _ :: _, _, h => exact (show False from h).elim
  | maxD =>
    refine ⟨_, pe_callB (L2H.cr_maxD (g.calm (by simpa [bfOk] using hf)) g.room) hg (g.bi _ (by decide)) boot_max ha (by decide) (by decide) hs hpl, fun z W ds vs Q Ex k r h => ?_⟩
    match ds, r, h with
    | [d], .cons (v := v) rv .nil, h =>
      obtain ⟨a, xs, us, rfl, h1, h2, h3, _⟩ := seqA_ok k rv (show Wp G z W ((seqA d).bind fun xs => M.opt (bestOf (fun y a => PySem.W.dataLt a y) xs)) (Wt G z Q) Ex from h).bind
      obtain ⟨m, e, h4⟩ := h3.opt k
      obtain ⟨x, xs', p, ps, rfl, e1, e2, ha, hdep, hm⟩ := bestOf_at e
      refine ⟨a, us, p, ps, rfl, ?_, ?_, ha, hdep, fun i w hi hw => ?_⟩
      · rw [hK]
        exact h1
      · rw [hK]
        exact dps_of trivial h2 (show D.pys (x :: xs') = some (p :: ps) by simp [D.pys, e1, e2])
      · exact h4 w (best_rep e1 e2 h2 hm hi hw)
    | [], .nil, h => exact (show False from h).elim
    | _ :: _ :: _, _, h => exact (show False from h).elim
  | all =>
    refine ⟨_, pe_callB (cr_all (g.calm (by simpa [bfOk] using hf))) hg (g.bi _ (by decide)) boot_all ha (by decide) (by decide) hs hpl, fun z W ds vs Q Ex k r h => ?_⟩
    match ds, r, h with
    | [d], .cons (v := v) rv .nil, h =>
      obtain ⟨a, xs, us, rfl, h1, h2, h3⟩ := seqL_ok k rv (show Wp G z W ((seqL d).bind fun xs => (M.opt (blsOf xs)).bind fun is => M.pure (.bl (is.all id))) (Wt G z Q) Ex from h).bind
      obtain ⟨is, e, h4⟩ := h3.bind.opt k
      refine ⟨a, is, rfl, ?_, h4.pure0 k _ (.bl _)⟩
      rw [← bls_of h2 e]
      exact SqL.of h1
    | [], .nil, h => exact (show False from h).elim
    | _ :: _ :: _, _, h => exact (show False from h).elim
  | any =>
    refine ⟨_, pe_callB (cr_any (g.calm (by simpa [bfOk] using hf))) hg (g.bi _ (by decide)) boot_any ha (by decide) (by decide) hs hpl, fun z W ds vs Q Ex k r h => ?_⟩
    match ds, r, h with
    | [d], .cons (v := v) rv .nil, h =>
      obtain ⟨a, xs, us, rfl, h1, h2, h3⟩ := seqL_ok k rv (show Wp G z W ((seqL d).bind fun xs => (M.opt (blsOf xs)).bind fun is => M.pure (.bl (is.any id))) (Wt G z Q) Ex from h).bind
      obtain ⟨is, e, h4⟩ := h3.bind.opt k
      refine ⟨a, is, rfl, ?_, h4.pure0 k _ (.bl _)⟩
      rw [← bls_of h2 e]
      exact SqL.of h1
    | [], .nil, h => exact (show False from h).elim
    | _ :: _ :: _, _, h => exact (show False from h).elim
  | tuple =>
    refine ⟨_, pe_callTy call_tuple_of hg (g.bi _ (by decide)) boot_tuple ha (by decide) (by decide) hs hpl, fun z W ds vs Q Ex k r h => ?_⟩
    match ds, r, h with
    | [d], .cons (v := v) rv .nil, h =>
      obtain ⟨a, xs, us, rfl, h1, h2, h3, h4, h5⟩ := seqA_ok k rv (show Wp G z W ((seqA d).bind fun xs => M.pure (.tup xs)) (Wt G z Q) Ex from h).bind
      by_cases q : ∃ ds, d = .tup ds
      · refine ⟨a, us, rfl, .inr ⟨?_, h3.pure0 k _ (.tup (h4 q).2 h2)⟩⟩
        rw [hK]; exact (h4 q).1
      · exact ⟨a, us, rfl, .inl ⟨SqL.of (h5 fun ds e => q ⟨ds, e⟩), new_tup k h2 h3⟩⟩
    | [], .nil, h => exact (show False from h).elim
    | _ :: _ :: _, _, h => exact (show False from h).elim
  | isin =>
    refine ⟨_, pe_callB call_isi hg (g.bi _ (by decide)) boot_isinstance ha (by decide) (by decide) hs hpl, fun z W ds vs Q Ex k r h => ?_⟩
    have q : ∃ d n, ds = [d, .ty n] := by
      match ds, h with
      | [], h => exact (show False from h).elim
      | [d], h => cases d <;> exact (show False from h).elim
      | [d, e], h => cases e <;> first | exact ⟨_, _, rfl⟩ | exact (show False from h).elim
      | d :: e :: _ :: _, h => cases e <;> exact (show False from h).elim
    obtain ⟨d, n, rfl⟩ := q
    match r with
    | .cons (v := v) rv (.cons (.ty _) .nil) =>
      have h : Wp G z W (match tyName d with | some t => if tyOk n then M.pure (.bl (isTy t n)) else M.bad | none => M.bad) (Wt G z Q) Ex := h
      cases e : tyName d with
      | none => rw [e] at h; exact h.bad.elim
      | some t =>
        rw [e] at h
        rcases (show Wp G z W (if tyOk n then M.pure (.bl (isTy t n)) else M.bad) (Wt G z Q) Ex from h).ite with ⟨q, h⟩ | ⟨q, h⟩
        · obtain ⟨t1, t2⟩ := tyX_of rv e
          refine ⟨v, .ty n, .type t, .type n, isTy t n, rfl, .ty n, ?_, kit_ty (kit_all t t1 n (tyOk_mem q)), h.pure0 k _ (.bl _)⟩
          rw [hK]; exact t2
        · exact h.bad.elim
  | list =>
    refine ⟨_, pe_callTy call_list_of hg (g.bi _ (by decide)) boot_list ha (by decide) (by decide) hs hpl, fun z W ds vs Q Ex k r h => ?_⟩
    have q : ∃ d, ds = [d] := by
      match ds, h with
      | [], h => exact (show False from h).elim
      | [d], h => exact ⟨d, rfl⟩
      | d :: e :: _, h => cases d <;> exact (show False from h).elim
    obtain ⟨d, rfl⟩ := q
    match r with
    | .cons (v := v) rv .nil => exact bfL_ok hK k rv (datum_of (f := bfL .list [d]) (by cases d <;> exact h))
/-- list(x), a new list -/
theorem bfLs_ok {X : Cx} {Γ : Cxt} {C : Nat → List D → M D} {Kc : Nat → D} {Wx : WX} (g : Good G C Kc Γ X Wx) {t : TA} {p pos : Pos} {e : Expr} {es : List Expr} (hg : Gl X (Bf.name .list)) (ha : PA X (e :: es) t)
    (hs : starEach (e :: es) X.env = (false, eval e X.env) :: starEach es X.env) (hpl : (backTo pos (starEach es X.env)).any (·.1) = false) :
    ∃ r, PE X (.Call (.Name (Bf.name .list) p) (e :: es) [] pos) (tCB r t) ∧
    ∀ (z : List Addr) (W : Wd) (ds : List D) (vs : List V) (Q : VK) (Ex : Nat → List D → Wd → Prop), Mok G z W → RpsW G z W ds vs → Wp G z W (bfL .list ds) (WtL G z Q) Ex → r vs W.H Q := by
  refine ⟨_, pe_callTy call_list_of hg (g.bi _ (by decide)) boot_list ha (by decide) (by decide) hs hpl, fun z W ds vs Q Ex k r h => ?_⟩
  have q : ∃ d, ds = [d] := by
    match ds, h with
    | [], h => exact (show False from h).elim
    | [d], h => exact ⟨d, rfl⟩
    | d :: e :: _, h => cases d <;> exact (show False from h).elim
  obtain ⟨d, rfl⟩ := q
  match r with
  | .cons (v := v) rv .nil => exact bfL_ok g.K k rv h
end
end DL
/-! DL7: what is walked; targets -/
namespace DL
open PySem PyProof.Rows L2 PySem.Spec

theorem boot_type {n : String} (h : tyOk n = true) : bootBuiltins (Str.ofString n) = some (.type n) ∧ (Str.ofString n) ≠ "__name__" ∧ (Str.ofString n == ("__debug__" : Str)) = false ∧ Str.ofString n ∈ builtins := by
  have q := tyOk_mem h
  simp only [List.mem_cons, List.not_mem_nil, or_false] at q
  rcases q with rfl | rfl | rfl | rfl | rfl
  · exact ⟨boot_bool, by decide +kernel, by decide +kernel, by decide +kernel⟩
  · exact ⟨boot_int, by decide +kernel, by decide +kernel, by decide +kernel⟩
  · exact ⟨boot_str, by decide +kernel, by decide +kernel, by decide +kernel⟩
  · exact ⟨boot_tuple, by decide +kernel, by decide +kernel, by decide +kernel⟩
  · exact ⟨boot_list, by decide +kernel, by decide +kernel, by decide +kernel⟩

def tzLen : Tz → Nat
  | .cons _ ts => tzLen ts + 1
  | _ => 0
/-! ### a list or a tuple, walked -/
def iSeq (K : PySem.W.Frag) (tl : TE) : TI := fun σ H R => tl σ H fun x H1 => ∃ a, x = .ref a ∧ (((∃ xs, SqL K H1 a xs) ∧ R (Itl K a) H1) ∨ ((∃ xs, SqT K H1 a xs) ∧ R (Itt K a) H1))
theorem pi_seq {X : Cx} {tg l : Expr} {tl : TE} (hl : PE X l tl) : PI X tg l (iSeq X.K tl) := by
  constructor
  intro pins s σ H R I h
  refine thn (hl.run pins s σ H _ I h) ?_
  rintro v s1 ⟨x, H1, I1, r1, a, rfl, hq⟩
  cases r1
  have kept : ∀ ob : Obj, Inv X pins σ H1 { s1 with heap := s1.heap.push ob } := fun ob => I1.kept (t' := s1.toks) fun b o q => Heap.get?_push_of_some _ q
  have ok1 : ∀ b ∈ [s1.heap.objs.size], FpOk X pins H1 b := fun b hb => by
    obtain rfl := List.mem_singleton.mp hb
    exact I1.fpOk (Nat.le_refl _) I1.fresh
  rcases hq with ⟨⟨xs, hx⟩, q⟩ | ⟨⟨xs, hx⟩, q⟩
  · obtain ⟨its, rv, p, hz⟩ := I1.list hx
    exact wpAny_pyIter_list p.isList ⟨_, [s1.heap.objs.size], _, Itl X.K a, H1, rfl, kept _, turn_list a _, ⟨_, Heap.get?_push_size _ rfl, rfl, rfl⟩, ok1, q⟩
  · obtain ⟨its, rv, p, hz⟩ := I1.tuple hx
    exact wpAny_pyIter_tuple (items := its.toArray) p ⟨_, [s1.heap.objs.size], _, Itt X.K a, H1, rfl, kept _, turn_tuple a _, ⟨_, Heap.get?_push_size _ rfl, rfl, rfl⟩, ok1, q⟩

section
variable {G : Gx} {F : Hp} {m : List Addr}
theorem it_list {a : Addr} {vs : List V} {ds : List D} (h : F a = some (.lst vs)) (r : Rps G F m ds vs) : ItR G F m (Itl G.K a) ds := by
  intro z W k e hm
  have ha : W.H a = some (.lst vs) := F_sub (e _ _ h fun _ q => nomatch q)
  have rW : RpsW G z W ds vs := r.mono e hm
  have hS : SqL G.K W.H a vs := SqL.of ha
  refine ⟨fun i d hd => ?_, fun i hi => ⟨vs, hS, by rw [← rW.len]; exact hi⟩⟩
  obtain ⟨v, hv, rv⟩ := rW.get hd
  refine ⟨⟨vs, v, hS, hv⟩, fun x H' hy => ?_⟩
  obtain ⟨e1, e2⟩ := hy
  have e3 : x = v := Option.some.inj ((e2 vs hS).symm.trans hv)
  exact ⟨W, e1.symm, rfl, k, Le.refl _ _, by rw [e3]; exact rv⟩
theorem it_tup {a : Addr} {vs : List V} {ds : List D} (h : SqT G.K F a vs) (r : Rps G F m ds vs) : ItR G F m (Itt G.K a) ds := by
  intro z W k e hm
  have hS : SqT G.K W.H a vs := sqT_of (z := z) (e.sqT h)
  have rW : RpsW G z W ds vs := r.mono e hm
  refine ⟨fun i d hd => ?_, fun i hi => ⟨vs, hS, by rw [← rW.len]; exact hi⟩⟩
  obtain ⟨v, hv, rv⟩ := rW.get hd
  refine ⟨⟨vs, v, hS, hv⟩, fun x H' hy => ?_⟩
  obtain ⟨e1, e2⟩ := hy
  have e3 : x = v := Option.some.inj ((e2 vs hS).symm.trans hv)
  exact ⟨W, e1.symm, rfl, k, Le.refl _ _, by rw [e3]; exact rv⟩
theorem it_rng {lo : Int} {n : Nat} : ItR G F m (Itr lo n) ((List.range n).map fun (i : Nat) => D.int (lo + (i : Int))) := by
  intro z W k e hm
  refine ⟨fun i d hd => ?_, fun i hi => by
    show n ≤ i
    simpa using hi⟩
  rw [List.getElem?_map] at hd
  have hi : i < n := by
    by_cases q : i < n
    · exact q
    · rw [List.getElem?_eq_none (by simpa using q)] at hd
      cases hd
  rw [List.getElem?_range hi] at hd
  cases hd
  refine ⟨hi, fun x H' hy => ?_⟩
  obtain ⟨e1, e2⟩ := hy
  exact ⟨W, e1.symm, rfl, k, Le.refl _ _, by rw [e2]; exact .int _⟩
theorem enumD_get {ds : List D} {i : Nat} {d : D} (h : (enumD ds)[i]? = some d) : ∃ e, ds[i]? = some e ∧ d = .tup [.int (i : Nat), e] := by
  unfold enumD at h
  rw [List.getElem?_map, List.getElem?_zipIdx] at h
  cases q : ds[i]? with
  | none => rw [q] at h; cases h
  | some e =>
    rw [q] at h
    have h' : some (D.tup [.int ((0 + i : Nat) : Int), e]) = some d := h
    rw [Nat.zero_add] at h'
    exact ⟨e, rfl, (Option.some.inj h').symm⟩
theorem enumD_len {ds : List D} : (enumD ds).length = ds.length := by
  unfold enumD
  rw [List.length_map, List.length_zipIdx]
theorem pair_new {z : List Addr} {W : Wd} {T : Addr} {d1 d2 : D} {x y : V} (k : Mok G z W) (hT : W.H T = none) (r1 : RpW G z W d1 x) (r2 : RpW G z W d2 y) :
    ∃ W' : Wd, W'.H = upd W.H T (.tup [x, y]) ∧ W'.μ = W.μ ∧ Mok G z W' ∧ Le z W W' ∧ RpW G z W' (.tup [d1, d2]) (.ref T) := by
  obtain ⟨k1, l1, f1⟩ := k.new (o := .tup [x, y]) hT
  exact ⟨⟨W.m, W.μ, upd W.H T (.tup [x, y])⟩, rfl, rfl, k1, l1, .tup (SqT.of f1) (.cons (r1.le l1) (.cons (r2.le l1) .nil))⟩
theorem it_enum {a : Addr} {vs : List V} {ds : List D} (h : F a = some (.lst vs)) (r : Rps G F m ds vs) : ItR G F m (Ite G.K a) (enumD ds) := by
  intro z W k e hm
  have ha : W.H a = some (.lst vs) := F_sub (e _ _ h fun _ q => nomatch q)
  have rW : RpsW G z W ds vs := r.mono e hm
  have hS : SqL G.K W.H a vs := SqL.of ha
  refine ⟨fun i d hd => ?_, fun i hi => ⟨vs, hS, by rw [← rW.len, ← enumD_len]; exact hi⟩⟩
  obtain ⟨d', hd', rfl⟩ := enumD_get hd
  obtain ⟨v, hv, rv⟩ := rW.get hd'
  refine ⟨⟨vs, v, hS, hv⟩, fun x H' hy => ?_⟩
  obtain ⟨T, x', e1, e2, e3, e4⟩ := hy
  have e5 : x' = v := Option.some.inj ((e4 vs hS).symm.trans hv)
  subst e1 e3 e5
  exact pair_new k e2 (.int _) rv
theorem it_enumT {a : Addr} {vs : List V} {ds : List D} (h : SqT G.K F a vs) (r : Rps G F m ds vs) : ItR G F m (L2H.IteT G.K a) (enumD ds) := by
  intro z W k e hm
  have rW : RpsW G z W ds vs := r.mono e hm
  have hS : SqT G.K W.H a vs := sqT_of (e.sqT h)
  refine ⟨fun i d hd => ?_, fun i hi => ⟨vs, hS, by rw [← rW.len, ← enumD_len]; exact hi⟩⟩
  obtain ⟨d', hd', rfl⟩ := enumD_get hd
  obtain ⟨v, hv, rv⟩ := rW.get hd'
  refine ⟨⟨vs, v, hS, hv⟩, fun x H' hy => ?_⟩
  obtain ⟨T, x', e1, e2, e3, e4⟩ := hy
  have e5 : x' = v := Option.some.inj ((e4 vs hS).symm.trans hv)
  subst e1 e3 e5
  exact pair_new k e2 (.int _) rv
theorem zipD_get {ds es : List D} {i : Nat} {d : D} (h : (zipD ds es)[i]? = some d) : ∃ x y, ds[i]? = some x ∧ es[i]? = some y ∧ d = .tup [x, y] := by
  unfold zipD at h
  rw [List.getElem?_map] at h
  cases q : (ds.zip es)[i]? with
  | none => rw [q] at h; cases h
  | some p =>
    rw [q] at h
    obtain ⟨h1, h2⟩ := List.getElem?_zip_eq_some.mp q
    exact ⟨p.1, p.2, h1, h2, (Option.some.inj h).symm⟩
theorem zipD_len {ds es : List D} : (zipD ds es).length = min ds.length es.length := by
  unfold zipD
  rw [List.length_map, List.length_zip]
theorem it_zipL {a b : Addr} {vs us : List V} {ds es : List D} (h1 : F a = some (.lst vs)) (h2 : F b = some (.lst us)) (r1 : Rps G F m ds vs) (r2 : Rps G F m es us) : ItR G F m (Itz G.K a b) (zipD ds es) := by
  intro z W k e hm
  have s1 : SqL G.K W.H a vs := SqL.of (F_sub (e _ _ h1 fun _ q => nomatch q))
  have s2 : SqL G.K W.H b us := SqL.of (F_sub (e _ _ h2 fun _ q => nomatch q))
  have q1 : RpsW G z W ds vs := r1.mono e hm
  have q2 : RpsW G z W es us := r2.mono e hm
  refine ⟨fun i d hd => ?_, fun i hi => ⟨vs, us, s1, s2, ?_⟩⟩
  · obtain ⟨d1, d2, g1, g2, rfl⟩ := zipD_get hd
    obtain ⟨v1, e1, p1⟩ := q1.get g1
    obtain ⟨v2, e2, p2⟩ := q2.get g2
    refine ⟨⟨vs, us, v1, v2, s1, s2, e1, e2⟩, fun x H' hy => ?_⟩
    obtain ⟨T, x1, x2, c1, c2, c3, c4, c5⟩ := hy
    have t1 : x1 = v1 := Option.some.inj ((c4 vs s1).symm.trans e1)
    have t2 : x2 = v2 := Option.some.inj ((c5 us s2).symm.trans e2)
    subst c1 c3 t1 t2
    exact pair_new k c2 p1 p2
  · rw [zipD_len, q1.len, q2.len] at hi
    omega
theorem it_zipT {a b : Addr} {vs us : List V} {ds es : List D} (h1 : SqT G.K F a vs) (h2 : SqT G.K F b us) (r1 : Rps G F m ds vs) (r2 : Rps G F m es us) : ItR G F m (RZ.ItzT G.K a b) (zipD ds es) := by
  intro z W k e hm
  have s1 : SqT G.K W.H a vs := sqT_of (z := z) (e.sqT h1)
  have s2 : SqT G.K W.H b us := sqT_of (z := z) (e.sqT h2)
  have q1 : RpsW G z W ds vs := r1.mono e hm
  have q2 : RpsW G z W es us := r2.mono e hm
  refine ⟨fun i d hd => ?_, fun i hi => ⟨vs, us, s1, s2, ?_⟩⟩
  · obtain ⟨d1, d2, g1, g2, rfl⟩ := zipD_get hd
    obtain ⟨v1, e1, p1⟩ := q1.get g1
    obtain ⟨v2, e2, p2⟩ := q2.get g2
    refine ⟨⟨vs, us, v1, v2, s1, s2, e1, e2⟩, fun x H' hy => ?_⟩
    obtain ⟨T, x1, x2, c1, c2, c3, c4, c5⟩ := hy
    have t1 : x1 = v1 := Option.some.inj ((c4 vs s1).symm.trans e1)
    have t2 : x2 = v2 := Option.some.inj ((c5 us s2).symm.trans e2)
    subst c1 c3 t1 t2
    exact pair_new k c2 p1 p2
  · rw [zipD_len, q1.len, q2.len] at hi
    omega
end

/-! ### targets -/
/-- the slots of is may have turned, all else is as it was -/
def Same1 (σ σ' : L2.St) (is : List Nat) : Prop := σ'.length = σ.length ∧ ∀ i, i ∉ is → σ'[i]? = σ[i]?
theorem Same1.wipe {σ σ' : L2.St} {is : List Nat} (h : Same1 σ σ' is) : L2.wipe σ' is = L2.wipe σ is := by
  apply List.ext_getElem?
  intro i
  have key : ∀ (js : List Nat) (τ : L2.St), (i ∈ js → (L2.wipe τ js)[i]? = if i < τ.length then some none else none) ∧ (i ∉ js → (L2.wipe τ js)[i]? = τ[i]?) := by
    intro js
    induction js with
    | nil => exact fun τ => ⟨fun q => absurd q (List.not_mem_nil), fun _ => rfl⟩
    | cons j js ih =>
      intro τ
      have e : L2.wipe τ (j :: js) = (L2.wipe τ js).set j none := rfl
      rw [e]
      by_cases hij : i = j
      · subst hij
        refine ⟨fun _ => ?_, fun q => absurd List.mem_cons_self q⟩
        by_cases hl : i < τ.length
        · rw [List.getElem?_set_self (by rw [wipe_length]; exact hl), if_pos hl]
        · rw [List.getElem?_eq_none (by rw [List.length_set, wipe_length]; omega), if_neg hl]
      · rw [List.getElem?_set_ne (Ne.symm hij)]
        exact ⟨fun q => (ih τ).1 ((List.mem_cons.mp q).resolve_left hij), fun q => (ih τ).2 fun p => q (List.mem_cons_of_mem _ p)⟩
  by_cases hi : i ∈ is
  · rw [(key is σ').1 hi, (key is σ).1 hi, h.1]
  · rw [(key is σ').2 hi, (key is σ).2 hi, h.2 i hi]
theorem Same1.trans {σ σ1 σ2 : L2.St} {is js : List Nat} (a : Same1 σ σ1 is) (b : Same1 σ1 σ2 js) : Same1 σ σ2 (is ++ js) :=
  ⟨b.1.trans a.1, fun i hi => (b.2 i fun q => hi (List.mem_append_right _ q)).trans (a.2 i fun q => hi (List.mem_append_left _ q))⟩
def tTg (G : Gx) (tg : Tz) : TG := fun v σ H Q => ∃ z ρ W d ρ', W.H = H ∧ Mok G z W ∧ EnvR G z W ρ σ ∧ RpW G z W d v ∧ bindT tg d ρ = some ρ' ∧ ∀ σ', EnvR G z W ρ' σ' → Same1 σ σ' tg.slots → Q σ' H
def tTgs (G : Gx) (tg : Tz) : TGs := fun vs σ H Q => ∃ z ρ W ds ρ', W.H = H ∧ Mok G z W ∧ EnvR G z W ρ σ ∧ RpsW G z W ds vs ∧ bindTs tg ds ρ = some ρ' ∧ ∀ σ', EnvR G z W ρ' σ' → Same1 σ σ' tg.slots → Q σ' H
theorem impPG {X : Cx} {e : Expr} {t t' : TG} (h : PG X e t) (hi : ∀ v σ H Q, t' v σ H Q → t v σ H Q) : PG X e t' := ⟨fun pins s σ H v u Q I r q => h.run pins s σ H v u Q I r (hi v σ H Q q)⟩
theorem impPGs {X : Cx} {e : List Expr} {t t' : TGs} (h : PGs X e t) (hi : ∀ v σ H Q, t' v σ H Q → t v σ H Q) : PGs X e t' := ⟨fun pins s σ H v u Q I r q => h.run pins s σ H v u Q I r (hi v σ H Q q)⟩
section
variable {G : Gx} {C : Nat → List D → M D} {Kc : Nat → D} {Γ : Cxt} {X : Cx} {Wx : WX}
theorem asg_of {x : Str} (g : Good G C Kc Γ X Wx) (h : Γ.asg x = true) : Loc X.env.scope x ∧ (X.fn x = true ∨ X.env.scope.names.lookup x = some .local) := by
  unfold Cxt.asg at h
  rw [g.sc, g.fn]
  split at h
  · rename_i q
    exact ⟨.inl q, .inr q⟩
  · rename_i q
    refine ⟨.inr q, .inl ?_⟩
    split at h
    · rename_i e
      rw [e]
    · rename_i s e
      rw [e]
      exact h
  · cases h
mutual
theorem pg_ok (g : Good G C Kc Γ X Wx) : ∀ (t : Tz) (e : Expr), ckT Γ t e = true → PG X e (tTg G t)
  | .nm i, e, h => by
    cases e with
    | Name x p =>
      simp only [ckT, Bool.and_eq_true, Cxt.nm, decide_eq_true_eq] at h
      obtain ⟨a1, a2⟩ := asg_of g h.2
      refine impPG (pg_name (i := i) (by rw [g.N]; exact g.nd) (by rw [g.N]; exact h.1) a1 a2) ?_
      rintro v σ H Q ⟨z, ρ, W, d, ρ', rfl, k, r, rv, hb, q⟩
      simp only [bindT] at hb
      split at hb
      · cases hb
        refine q _ (r.set rv i) ⟨by rw [List.length_set], fun j hj => ?_⟩
        rw [List.getElem?_set_ne]
        intro e
        exact hj (by rw [← e]; exact List.mem_singleton.mpr rfl)
      · cases hb
    | _ => cases h
  | .tp ts, e, h => by
    cases e with
    | Tuple es kk p =>
      simp only [ckT] at h
      have hst := stars_ok h
      have e1 : (assignEach es X.env).length = es.length := by rw [assigns_of hst, List.length_map]
      have e2 : (assignEach es X.env).findIdx? (·.1) = none := by rw [assigns_of hst, List.findIdx?_map]; exact List.findIdx?_eq_none_iff.mpr fun _ _ => rfl
      have P0 : PG X (.Tuple es kk p) (gTup X.K es.length (tTgs G ts)) := by
        cases eh : Γ.hot with
        | false => exact pg_tup (g.calm eh) (pgs_ok g ts es h) e1 e2
        | true => exact L2H.pg_tupH (g.hotc eh) (pgs_ok g ts es h) e1 e2
      refine impPG P0 ?_
      rintro v σ H Q ⟨z, ρ, W, d, ρ', rfl, k, r, rv, hb, q⟩
      cases d with
      | tup xs =>
        simp only [bindT] at hb
        cases rv with
        | @tup a vs ds h1 h2 =>
          refine ⟨a, vs, rfl, ?_, ?_, z, ρ, W, xs, ρ', rfl, k, r, h2, hb, q⟩
          · rw [g.K]; exact sqT_of h1
          · rw [← h2.len, ← len_ok h, bindTs_len hb]
      | _ => cases hb
    | _ => cases h
  | .nil, e, h => by cases e <;> cases h
  | .cons _ _, e, h => by cases e <;> cases h
theorem pgs_ok (g : Good G C Kc Γ X Wx) : ∀ (t : Tz) (es : List Expr), ckTs Γ t es = true → PGs X es (tTgs G t)
  | .nil, [], _ => impPGs pgs_nil (by
    rintro vs σ H Q ⟨z, ρ, W, ds, ρ', rfl, k, r, rv, hb, q⟩
    cases ds with
    | nil =>
      cases hb
      cases rv
      exact ⟨rfl, q σ r ⟨rfl, fun _ _ => rfl⟩⟩
    | cons d ds => cases hb)
  | .cons t ts, e :: es, h => by
    simp only [ckTs, Bool.and_eq_true] at h
    refine impPGs (pgs_cons (pg_ok g t e h.1.2) (pgs_ok g ts es h.2) (by rw [assign_of h.1.1]; rfl)) ?_
    rintro vs σ H Q ⟨z, ρ, W, ds, ρ', rfl, k, r, rv, hb, q⟩
    cases ds with
    | nil => cases hb
    | cons d ds =>
      cases rv with
      | @cons _ v _ vs h1 h2 =>
        simp only [bindTs] at hb
        cases e1 : bindT t d ρ with
        | none => rw [e1] at hb; cases hb
        | some ρ1 =>
          rw [e1] at hb
          exact ⟨v, vs, rfl, z, ρ, W, d, ρ1, rfl, k, r, h1, e1, fun σ1 r1 s1 => ⟨z, ρ1, W, ds, ρ', rfl, k, r1, h2, hb, fun σ2 r2 s2 => q σ2 r2 (s1.trans s2)⟩⟩
  | .nil, _ :: _, h => by cases h
  | .cons _ _, [], h => by cases h
  | .nm _, es, h => by cases es <;> cases h
  | .tp _, es, h => by cases es <;> cases h
theorem stars_ok : ∀ {t : Tz} {es : List Expr}, ckTs Γ t es = true → es.all notStar = true
  | .nil, [], _ => rfl
  | .cons t ts, e :: es, h => by
    simp only [ckTs, Bool.and_eq_true] at h
    simp only [List.all_cons, Bool.and_eq_true]
    exact ⟨h.1.1, stars_ok h.2⟩
  | .nil, _ :: _, h => by cases h
  | .cons _ _, [], h => by cases h
  | .nm _, es, h => by cases es <;> cases h
  | .tp _, es, h => by cases es <;> cases h
theorem len_ok : ∀ {t : Tz} {es : List Expr}, ckTs Γ t es = true → tzLen t = es.length
  | .nil, [], _ => rfl
  | .cons t ts, e :: es, h => by
    simp only [ckTs, Bool.and_eq_true] at h
    simp only [tzLen, List.length_cons, len_ok h.2]
  | .nil, _ :: _, h => by cases h
  | .cons _ _, [], h => by cases h
  | .nm _, es, h => by cases es <;> cases h
  | .tp _, es, h => by cases es <;> cases h
theorem bindTs_len : ∀ {t : Tz} {ds : List D} {ρ ρ' : Env}, bindTs t ds ρ = some ρ' → ds.length = tzLen t
  | .nil, [], _, _, _ => rfl
  | .cons t ts, d :: ds, ρ, ρ', h => by
    simp only [bindTs] at h
    cases e : bindT t d ρ with
    | none => rw [e] at h; cases h
    | some ρ1 =>
      rw [e] at h
      simp only [tzLen, List.length_cons, bindTs_len h]
  | .nil, _ :: _, _, _, h => by cases h
  | .cons _ _, [], _, _, h => by cases h
  | .nm _, ds, _, _, h => by cases ds <;> cases h
  | .tp _, ds, _, _, h => by cases ds <;> cases h
end
end
end DL
/-! DL8: comprehensions -/
namespace DL
open PySem PyProof.Rows L2 PySem.Spec

/-- a world without what is being made at d -/
def Wd.del (W : Wd) (d : Addr) : Wd := ⟨W.m, W.μ, fun b => if b = d then none else W.H b⟩
section
variable {G : Gx} {z : List Addr} {W W' : Wd} {d : Addr} {vs : List V}
theorem del_F : (W.del d).F z = W.F (d :: z) := by
  funext b
  by_cases h : b ∈ d :: z ∨ W.lv b
  · have e2 : W.F (d :: z) b = none := by
      unfold Wd.F
      rw [if_pos h]
    rw [e2]
    unfold Wd.F
    by_cases h2 : b ∈ z ∨ (W.del d).lv b
    · rw [if_pos h2]
    · rw [if_neg h2]
      show (if b = d then none else W.H b) = none
      rcases h with h | h
      · rcases List.mem_cons.mp h with q | q
        · rw [if_pos q]
        · exact absurd (.inl q) h2
      · exact absurd (.inr h) h2
  · have e2 : W.F (d :: z) b = W.H b := by
      unfold Wd.F
      rw [if_neg h]
    rw [e2]
    unfold Wd.F
    rw [if_neg (fun q => h (q.imp (fun p => List.mem_cons_of_mem _ p) id))]
    show (if b = d then none else W.H b) = W.H b
    rw [if_neg (fun q => h (.inl (by rw [q]; exact List.mem_cons_self)))]
theorem del_H {b : Addr} (h : b ≠ d) : (W.del d).H b = W.H b := by
  show (if b = d then none else W.H b) = _
  rw [if_neg h]
theorem del_mok (k : Mok G (d :: z) W) (nz : d ∉ z) : Mok G z (W.del d) := by
  refine ⟨k.len, k.inj, fun b hb => k.zl b (List.mem_cons_of_mem _ hb), fun b hb => ?_, tabs_keep k.tabs fun b u e n => ?_, fun i a ob h1 h2 => ?_⟩
  · obtain ⟨u, e⟩ := k.zs b (List.mem_cons_of_mem _ hb)
    exact ⟨u, (del_H fun q => nz (by rw [← q]; exact hb)).trans e⟩
  · refine (del_H fun q => n ?_).trans e
    obtain ⟨vs, e2⟩ := k.zs d List.mem_cons_self
    rw [q, e2] at e
    cases e
    exact plain_lst
  · rw [del_F]
    refine (k.ob i a ob h1 h2).mono (Ext.refl _) (fun _ _ q => q) fun hf u e => ?_
    have h2' : W.μ[i]? = some ob := h2
    have la : W.lv a := ⟨i, by
      unfold live
      rw [h2']
      cases ob with
      | fro q => exact absurd rfl (hf q)
      | _ => trivial, h1⟩
    exact (del_H fun q => k.zl d List.mem_cons_self (by rw [← q]; exact la)).trans e
theorem del_le (l : Le (d :: z) W W') (nz : d ∉ z) : Le z (W.del d) (W'.del d) := by
  refine ⟨l.pre, ?_, fun b hb => ?_⟩
  · rw [del_F, del_F]
    exact l.ext
  · have nb : b ≠ d := fun q => nz (by rw [← q]; exact hb)
    rw [del_H nb, del_H nb]
    exact l.zk b (List.mem_cons_of_mem _ hb)
theorem Wp.frame {α : Type} {m : M α} {P : α → Wd → Prop} {Ex : Nat → List D → Wd → Prop} (h : Wp G z (W.del d) m P Ex) (nz : d ∉ z) : Wp G (d :: z) W m (fun a W' => P a (W'.del d)) (fun c xs W' => Ex c xs (W'.del d)) := by
  refine T.good_mono (fun r q => ?_) (show (m W.μ).good _ from h)
  cases r with
  | ok a μ' => exact fun W' e k l => q (W'.del d) e (del_mok k nz) (del_le l nz)
  | exc c xs μ' => exact fun W' e k l => q (W'.del d) e (del_mok k nz) (del_le l nz)
  | bad => exact q
theorem Wp.at_ {α : Type} {m : M α} {P : α → Wd → Prop} {Ex : Nat → List D → Wd → Prop} (h : Wp G z W m P Ex) (e : W'.μ = W.μ) (l : Le z W W') : Wp G z W' m P Ex := by
  show (m W'.μ).good _
  rw [e]
  refine T.good_mono (fun r q => ?_) h
  cases r with
  | ok a μ' => exact fun W2 e2 k2 l2 => q W2 e2 k2 (l.trans l2)
  | exc c xs μ' => exact fun W2 e2 k2 l2 => q W2 e2 k2 (l.trans l2)
  | bad => exact q
theorem Wp.calm {α : Type} {m : M α} {P : α → Wd → Prop} {Ex : Nat → List D → Wd → Prop} (h : Wp G z W (calmM m) P Ex) : Wp G z W m P (fun _ _ _ => False) := by
  refine T.good_mono (fun r q => ?_) (T.good_bind (show ((m W.μ).bind calmR).good _ from h))
  cases r with
  | ok a μ' => exact q
  | exc c xs μ' => exact (show False from q).elim
  | bad => exact q
theorem zset (k : Mok G (d :: z) W) : Mok G (d :: z) ⟨W.m, W.μ, upd W.H d (.lst vs)⟩ ∧ Wd.del ⟨W.m, W.μ, upd W.H d (.lst vs)⟩ d = W.del d ∧ Wd.F (d :: z) ⟨W.m, W.μ, upd W.H d (.lst vs)⟩ = W.F (d :: z) := by
  have e1 : Wd.del ⟨W.m, W.μ, upd W.H d (.lst vs)⟩ d = W.del d := by
    unfold Wd.del
    congr 1
    funext b
    show (if b = d then none else upd W.H d (.lst vs) b) = _
    by_cases q : b = d
    · rw [if_pos q, if_pos q]
    · rw [if_neg q, if_neg q, upd_ne q]
  have e2 : Wd.F (d :: z) ⟨W.m, W.μ, upd W.H d (.lst vs)⟩ = W.F (d :: z) := by rw [← del_F, ← del_F, e1]
  refine ⟨⟨k.len, k.inj, k.zl, fun b hb => ?_, let ⟨_, e⟩ := k.zs d List.mem_cons_self; tabs_upd k.tabs e plain_lst, fun i a ob h1 h2 => ?_⟩, e1, e2⟩
  · by_cases q : b = d
    · exact ⟨vs, by rw [q]; exact upd_same⟩
    · obtain ⟨u, e⟩ := k.zs b hb
      exact ⟨u, (upd_ne q).trans e⟩
  · rw [e2]
    refine (k.ob i a ob h1 h2).mono (Ext.refl _) (fun _ _ q => q) fun hf u e => ?_
    have h2' : W.μ[i]? = some ob := h2
    have la : W.lv a := ⟨i, by
      unfold live
      rw [h2']
      cases ob with
      | fro q => exact absurd rfl (hf q)
      | _ => trivial, h1⟩
    exact (upd_ne fun q => k.zl d List.mem_cons_self (by rw [← q]; exact la)).trans e
theorem zstart (k : Mok G z W) (h : W.H d = none) : d ∉ z ∧ Mok G (d :: z) ⟨W.m, W.μ, upd W.H d (.lst vs)⟩ ∧ Wd.del ⟨W.m, W.μ, upd W.H d (.lst vs)⟩ d = W := by
  have e1 : Wd.del ⟨W.m, W.μ, upd W.H d (.lst vs)⟩ d = W := by
    obtain ⟨m, μ, H⟩ := W
    unfold Wd.del
    congr 1
    funext b
    by_cases q : b = d
    · rw [if_pos q, q]
      exact h.symm
    · rw [if_neg q]
      exact upd_ne q
  have e2 : Wd.F (d :: z) ⟨W.m, W.μ, upd W.H d (.lst vs)⟩ = W.F z := by rw [← del_F, e1]
  refine ⟨k.nz h, ⟨k.len, k.inj, fun b hb => ?_, fun b hb => ?_, tabs_new k.tabs h, fun i a ob h1 h2 => ?_⟩, e1⟩
  · rcases List.mem_cons.mp hb with q | q
    · rw [q]
      exact k.nlv h
    · exact k.zl b q
  · rcases List.mem_cons.mp hb with q | q
    · exact ⟨vs, by rw [q]; exact upd_same⟩
    · obtain ⟨u, e⟩ := k.zs b q
      exact ⟨u, (upd_ne (ne_of_none e h)).trans e⟩
  · rw [e2]
    exact (k.ob i a ob h1 h2).mono (Ext.refl _) (fun _ _ q => q) fun hf u e => (upd_ne (ne_of_none e h)).trans e
end
theorem same_wipe (σ : L2.St) : ∀ is : List Nat, Same1 σ (L2.wipe σ is) is
  | [] => ⟨rfl, fun _ _ => rfl⟩
  | j :: is => by
    have ih := same_wipe σ is
    refine ⟨by rw [wipe_length], fun i hi => ?_⟩
    show ((L2.wipe σ is).set j none)[i]? = _
    rw [List.getElem?_set_ne (fun q => hi (by rw [q]; exact List.mem_cons_self))]
    exact ih.2 i fun q => hi (List.mem_cons_of_mem _ q)
/-- nothing is wanted of exceptions: there are none -/
abbrev W0 : WX := fun _ _ _ _ => False
/-- THE COMPREHENSION -/
theorem lc_ok {G : Gx} {Wx : WX} {σ : L2.St} {H : Hp} {Q : VK} {tg : Tz} {I : Env → M (List D)} {P : Env → M Bool} {E : Env → M D}
    (h : tL G Wx (fun ρ => (I ρ).bind fun ds => (lenOk ds).bind fun ds => lcGo ds (lcTurn tg P E ρ)) σ H Q) :
    tLc (tI G Wx I) (tTg G tg) (tT G W0 P) (tD G W0 E) tg.slots σ H Q := by
  obtain ⟨z, ρ, W, rfl, k, r, h⟩ := h
  refine ⟨z, ρ, W, rfl, k, r, h.bind.mono (fun ds W1 k1 l1 h1 J hJ Dd hD => ?_) fun _ _ _ _ _ q => q⟩
  have h1 := h1.bind
  unfold lenOk at h1
  rcases h1.ite with ⟨hsz, h1⟩ | ⟨_, h1⟩
  case inr => exact h1.bad.elim
  have h1 := h1.pure0 k1
  obtain ⟨nz, k0, e0⟩ := zstart (vs := []) k1 hD
  have r1 := r.le l1
  refine ⟨fun i m H => ∃ (W2 : Wd) (acc : List D) (vacc : List V), W2.H = H ∧ m = ds.length - i ∧ i ≤ ds.length ∧ Mok G (Dd :: z) W2 ∧ H Dd = some (.lst vacc) ∧ RpsW G (Dd :: z) W2 acc vacc ∧
    Le z W1 (W2.del Dd) ∧ acc.length ≤ i ∧ Wp G z (W2.del Dd) (lcGo (ds.drop i) (lcTurn tg P E ρ)) (fun xs W' => WtL G z Q (acc ++ xs) W') (exW G z Wx σ), ⟨ds.length, ?_⟩, ?_⟩
  · exact ⟨⟨W1.m, W1.μ, upd W1.H Dd (.lst [])⟩, [], [], rfl, rfl, Nat.zero_le _, k0, upd_same, .nil, by rw [e0]; exact Le.refl _ _, Nat.zero_le _, by rw [e0]; exact h1⟩
  rintro i m H2 ⟨W2, acc, vacc, rfl, rfl, hi, k2, hacc, racc, l2, hlen, h2⟩
  have eF2 : W2.F (Dd :: z) = (W2.del Dd).F z := del_F.symm
  have hJ2 := hJ (Dd :: z) W2 k2 (by rw [eF2]; exact l2.ext) l2.pre
  by_cases hlt : i < ds.length
  · refine .inr ?_
    obtain ⟨d, hd⟩ : ∃ d, ds[i]? = some d := ⟨ds[i], List.getElem?_eq_getElem hlt⟩
    obtain ⟨go, yl⟩ := hJ2.1 i d hd
    have hdrop : ds.drop i = d :: ds.drop (i + 1) := by
      rw [List.drop_eq_getElem_cons hlt]
      have q : ds[i] = d := Option.some.inj ((List.getElem?_eq_getElem hlt).symm.trans hd)
      rw [q]
    rw [hdrop] at h2
    refine ⟨go, fun H' => ∃ (W2 : Wd) (acc : List D) (vacc : List V), W2.H = H' ∧ ds.length - (i + 1) = ds.length - (i + 1) ∧ i + 1 ≤ ds.length ∧ Mok G (Dd :: z) W2 ∧ H' Dd = some (.lst vacc) ∧ RpsW G (Dd :: z) W2 acc vacc ∧
      Le z W1 (W2.del Dd) ∧ acc.length ≤ i + 1 ∧ Wp G z (W2.del Dd) (lcGo (ds.drop (i + 1)) (lcTurn tg P E ρ)) (fun xs W' => WtL G z Q (acc ++ xs) W') (exW G z Wx σ), fun H' q => ⟨ds.length - (i + 1), by omega, q⟩, fun x H' hy => ?_⟩
    obtain ⟨W3, rfl, e3, k3, l3, rx⟩ := yl x H' hy
    have l3' := del_le l3 nz
    have h2 : Wp G z (W2.del Dd) ((lcTurn tg P E ρ d).bind fun r => (lcGo (ds.drop (i + 1)) (lcTurn tg P E ρ)).bind fun rs => M.pure (match r with | some e => e :: rs | none => rs)) (fun xs W' => WtL G z Q (acc ++ xs) W') (exW G z Wx σ) := h2
    have h3 := (h2.bind.calm.at_ (W' := W3.del Dd) e3 l3').bind
    obtain ⟨ρ', hb, h3⟩ := h3.opt (del_mok k3 nz)
    have renv : EnvR G (Dd :: z) W3 ρ σ := by
      have q := (r1.le l2).le l3'
      exact ⟨q.len, fun i d e => by
        obtain ⟨v, e1, e2⟩ := q.at_ i d e
        refine ⟨v, e1, ?_⟩
        show Rp G (W3.F (Dd :: z)) W3.m d v
        rw [← del_F]
        exact e2⟩
    refine ⟨Dd :: z, wipeE ρ tg.slots, W3, d, ρ', rfl, k3, renv.wipe _, rx, hb, fun σ2 r2 s2 => ⟨s2.wipe.trans (same_wipe σ tg.slots).wipe, ?_⟩⟩
    refine ⟨Dd :: z, ρ', W3, rfl, k3, r2, (h3.bind.frame nz).mono (fun b W4 k4 l4 h4 => ?_) fun _ _ _ _ _ q => q.elim⟩
    cases b with
    | false =>
      rw [if_neg Bool.false_ne_true]
      rw [if_neg Bool.false_ne_true] at h4
      have h4 := (h4.pure0 (del_mok k4 nz)).bind
      refine ⟨W4, acc, vacc, rfl, rfl, hlt, k4, ?_, racc.le (l3.trans l4), (l2.trans l3').trans (del_le l4 nz), by omega, h4.mono (fun rs W' k' l' q => q.pure0 k') fun _ _ _ _ _ q => q⟩
      rw [l4.zk Dd List.mem_cons_self, l3.zk Dd List.mem_cons_self]
      exact hacc
    | true =>
      rw [if_pos rfl]
      rw [if_pos rfl] at h4
      refine ⟨Dd :: z, ρ', W4, rfl, k4, r2.le l4, (h4.bind.frame nz).mono (fun y W5 k5 l5 h5 v rv => ?_) fun _ _ _ _ _ q => q.elim⟩
      have h5 := (h5.pure0 (del_mok k5 nz)).bind
      have l25 := (l3.trans l4).trans l5
      refine ⟨vacc, ?_, ?_, ?_⟩
      · rw [l25.zk Dd List.mem_cons_self]
        exact hacc
      · rw [← racc.len]
        omega
      · obtain ⟨k6, e6, f6⟩ := zset (vs := vacc ++ [v]) k5
        refine ⟨⟨W5.m, W5.μ, upd W5.H Dd (.lst (vacc ++ [v]))⟩, acc ++ [y], vacc ++ [v], rfl, rfl, hlt, k6, upd_same, ?_, ?_, ?_, ?_⟩
        · show Rps G (Wd.F (Dd :: z) ⟨W5.m, W5.μ, upd W5.H Dd (.lst (vacc ++ [v]))⟩) W5.m _ _
          rw [f6]
          exact (racc.le l25).append (.cons rv .nil)
        · rw [e6]
          exact l2.trans (del_le l25 nz)
        · rw [List.length_append]
          show acc.length + 1 ≤ i + 1
          omega
        · rw [e6]
          refine h5.mono (fun rs W' k' l' q => ?_) fun _ _ _ _ _ q => q
          have q := q.pure0 k'
          rw [List.append_assoc]
          exact q
  · have ei : i = ds.length := by omega
    subst ei
    refine .inl ⟨hJ2.2 _ (Nat.le_refl _), ?_⟩
    rw [List.drop_length] at h2
    have h2 : Wp G z (W2.del Dd) (M.pure []) (fun xs W' => WtL G z Q (acc ++ xs) W') (exW G z Wx σ) := h2
    have q := h2.pure0 (del_mok k2 nz)
    rw [List.append_nil] at q
    have q2 := q vacc (by show Rps G ((W2.del Dd).F z) W2.m acc vacc; rw [del_F]; exact racc) Dd (by show (if Dd = Dd then none else W2.H Dd) = none; rw [if_pos rfl])
    have e : upd (W2.del Dd).H Dd (.lst vacc) = W2.H := by
      funext b
      by_cases hb : b = Dd
      · rw [hb, upd_same, hacc]
      · rw [upd_ne hb, del_H hb]
    rw [e] at q2
    exact q2
/-! ### dicts -/
theorem keyOf_of {G : Gx} {F : Hp} {m : List Addr} {d : D} {k : Key} (r : Rp G F m d (kV k)) : keyOf d = some k := by
  cases k with
  | inl i => cases r; rfl
  | inr x => cases r; rfl
theorem keyV_of {G : Gx} {F : Hp} {m : List Addr} {d : D} {v : V} {k : Key} (r : Rp G F m d v) (h : keyOf d = some k) : v = kV k := by
  cases r <;> cases h <;> rfl
theorem keysOf_of {G : Gx} {F : Hp} {m : List Addr} : ∀ {ds : List D} {ks : List Key}, Rps G F m ds (ks.map kV) → keysOf ds = some ks
  | [], [], _ => rfl
  | d :: ds, k :: ks, .cons h t => by
    unfold keysOf
    rw [keyOf_of h, keysOf_of t]
  | [], _ :: _, h => nomatch h
  | _ :: _, [], h => nomatch h
theorem keysV_of {G : Gx} {F : Hp} {m : List Addr} : ∀ {ds : List D} {vs : List V} {ks : List Key}, Rps G F m ds vs → keysOf ds = some ks → vs = ks.map kV
  | [], _, ks, .nil, h => by cases h; rfl
  | d :: ds, _, ks, .cons r t, h => by
    unfold keysOf at h
    cases e1 : keyOf d with
    | none => rw [e1] at h; cases h
    | some k =>
      cases e2 : keysOf ds with
      | none => rw [e1, e2] at h; cases h
      | some ks' =>
        rw [e1, e2] at h
        cases h
        rw [keyV_of r e1, keysV_of t e2]
        rfl
theorem hasT_of {G : Gx} {F : Hp} {m : List Addr} {p : D × D} {q : List Key} {ks : List Key} (h : ∃ ds, p.1 = .tup ds ∧ Rps G F m ds (q.map kV)) : hasT ks p = decide (q = ks) := by
  obtain ⟨ds, e, r⟩ := h
  unfold hasT
  rw [e]
  show decide (keysOf ds = some ks) = _
  rw [keysOf_of r]
  by_cases z : q = ks
  · rw [z]; simp
  · rw [decide_eq_false z, decide_eq_false (fun y => z (Option.some.inj y))]
theorem hasK_of {G : Gx} {F : Hp} {m : List Addr} {p : D × D} {q k : Key} (h : Rp G F m p.1 (kV q)) : hasK k p = decide (q = k) := by
  unfold hasK
  rw [keyOf_of h]
  by_cases z : q = k
  · rw [z]; simp
  · rw [decide_eq_false z, decide_eq_false (fun y => z (Option.some.inj y))]
section
variable {κ : Type} [DecidableEq κ] {f : D × D → Bool} {k : κ} {R : D × D → κ × V → Prop} {V1 : D → V → Prop}
theorem getD_ok (hR : ∀ p q, R p q → f p = decide (q.1 = k) ∧ V1 p.2 q.2) : ∀ {kvs : List (D × D)} {ks : List (κ × V)} {d : D}, Paired R kvs ks → getD f kvs = some d → ∃ v, valV ks k = some v ∧ V1 d v
  | [], _, d, .nil, h => by cases h
  | p :: kvs, q :: ks, d, .cons r t, h => by
    obtain ⟨h1, h2⟩ := hR p q r
    unfold getD at h
    rw [List.find?_cons, h1] at h
    by_cases z : q.1 = k
    · rw [decide_eq_true z] at h
      cases h
      exact ⟨q.2, valV_pos z, h2⟩
    · rw [decide_eq_false z] at h
      obtain ⟨v, e1, e2⟩ := getD_ok hR t (d := d) h
      exact ⟨v, (valV_neg z).trans e1, e2⟩
theorem any_ok (hR : ∀ p q, R p q → f p = decide (q.1 = k)) : ∀ {kvs : List (D × D)} {ks : List (κ × V)}, Paired R kvs ks → kvs.any f = ks.any fun kv => decide (kv.1 = k)
  | [], _, .nil => rfl
  | p :: kvs, q :: ks, .cons r t => by rw [List.any_cons, List.any_cons, hR p q r, any_ok hR t]
theorem map_ok (hR : ∀ p q, R p q → f p = decide (q.1 = k)) {d : D} {v : V} (hv : ∀ p q, R p q → q.1 = k → R (p.1, d) (q.1, v)) : ∀ {kvs : List (D × D)} {ks : List (κ × V)}, Paired R kvs ks →
    Paired R (kvs.map fun p => if f p = true then (p.1, d) else p) (ks.map fun kv => if kv.1 = k then (kv.1, v) else kv)
  | [], _, .nil => .nil
  | p :: kvs, q :: ks, .cons r t => by
    rw [List.map_cons, List.map_cons]
    refine .cons ?_ (map_ok hR hv t)
    rw [hR p q r]
    by_cases z : q.1 = k
    · rw [if_pos (decide_eq_true z), if_pos z]
      exact hv p q r z
    · rw [if_neg (by simpa using z), if_neg z]
      exact r
theorem snoc_ok {p : D × D} {q : κ × V} (h : R p q) : ∀ {kvs : List (D × D)} {ks : List (κ × V)}, Paired R kvs ks → Paired R (kvs ++ [p]) (ks ++ [q])
  | _, _, .nil => .cons h .nil
  | _, _, .cons r t => .cons r (snoc_ok h t)
theorem paired_len {kvs : List (D × D)} {ks : List (κ × V)} (h : Paired R kvs ks) : kvs.length = ks.length := by
  induction h with
  | nil => rfl
  | cons _ _ ih => rw [List.length_cons, List.length_cons, ih]
theorem putD_ok (hR : ∀ p q, R p q → f p = decide (q.1 = k)) {dk d : D} {v : V} (hv : ∀ p q, R p q → q.1 = k → R (p.1, d) (q.1, v)) (hn : R (dk, d) (k, v)) {kvs : List (D × D)} {ks : List (κ × V)} (h : Paired R kvs ks) :
    Paired R (putD f kvs dk d) (L2.putK ks k v) := by
  unfold putD L2.putK
  rw [any_ok hR h]
  split
  · exact map_ok hR hv h
  · exact snoc_ok hn h
end
abbrev RdK (G : Gx) (z : List Addr) (W : Wd) : D × D → Key × V → Prop := fun p q => Rp G (W.F z) W.m p.1 (kV q.1) ∧ Rp G (W.F z) W.m p.2 q.2
abbrev RdT (G : Gx) (z : List Addr) (W : Wd) : D × D → List Key × V → Prop := fun p q => (∃ ds, p.1 = .tup ds ∧ Rps G (W.F z) W.m ds (q.1.map kV)) ∧ Rp G (W.F z) W.m p.2 q.2
section
variable {G : Gx} {z : List Addr} {W : Wd} {P : D → Wd → Prop} {Ex : Nat → List D → Wd → Prop}
theorem dget_ok {o k : D} {vo vk : V} (kk : Mok G z W) (ro : RpW G z W o vo) (rk : RpW G z W k vk) (h : Wp G z W (dgetop o k) P Ex) : ∃ (a : Addr) (v : V) (d : D), vo = .ref a ∧ RpW G z W d v ∧ P d W ∧
    ((∀ ds, k ≠ .tup ds) → DGet W.H a vk (some v)) ∧ (∀ ds vs, k = .tup ds → RpsW G z W ds vs → ∀ p H', H' p = some (.tup vs) → (∀ b u, W.H b = some u → H' b = some u) → DGet H' a (.ref p) (some v)) := by
  cases o with
  | ref n =>
    obtain ⟨a, rfl, hm⟩ := ro.inv_ref
    have h' : (dgetop (.ref n) k W.μ).good _ := h
    cases e : W.μ[n]? with
    | none => simp only [dgetop, e] at h'; exact (show False from h').elim
    | some ob =>
      simp only [dgetop, e] at h'
      cases ob with
      | dT kvs =>
        cases k with
        | tup ds =>
          have h2 : Wp G z W (M.opt (getTo kvs ds)) P Ex := h'
          obtain ⟨d, e1, hP0⟩ := h2.opt kk
          unfold getTo at e1
          cases e2 : keysOf ds with
          | none => rw [e2] at e1; cases e1
          | some ks =>
            rw [e2] at e1
            obtain ⟨qs, hH, hP⟩ := kk.ob n a _ hm e
            obtain ⟨v, g1, g2⟩ := getD_ok (f := hasT ks) (k := ks) (R := RdT G z W) (V1 := fun d v => Rp G (W.F z) W.m d v) (fun p q r => ⟨hasT_of r.1, r.2⟩) hP e1
            refine ⟨a, v, d, rfl, g2, hP0, fun q => absurd rfl (q ds), fun ds' vs eq rv p H' hp st => ?_⟩
            cases eq
            rw [keysV_of rv e2] at hp
            rw [← g1]
            exact DGet.t (st _ _ hH) hp
        | _ => exact (show False from h').elim
      | dK kvs =>
        have h2 : Wp G z W (M.opt (getKo kvs k)) P Ex := h'
        obtain ⟨d, e1, hP0⟩ := h2.opt kk
        unfold getKo at e1
        cases e2 : keyOf k with
        | none => rw [e2] at e1; cases e1
        | some ks =>
          rw [e2] at e1
          obtain ⟨qs, hH, hP⟩ := kk.ob n a _ hm e
          obtain ⟨v, g1, g2⟩ := getD_ok (f := hasK ks) (k := ks) (R := RdK G z W) (V1 := fun d v => Rp G (W.F z) W.m d v) (fun p q r => ⟨hasK_of r.1, r.2⟩) hP e1
          refine ⟨a, v, d, rfl, g2, hP0, fun q => ?_, fun ds vs eq => ?_⟩
          · rw [keyV_of rk e2, ← g1]
            exact DGet.k hH
          · rw [eq] at e2
            cases e2
      | _ => exact (show False from h').elim
  | _ => exact (show False from h).elim
theorem setOb_ok {n : Nat} {o : Option Ob} {P : Unit → Wd → Prop} (h : Wp G z W (setOb n o) P Ex) : ∃ ob, o = some ob ∧ ∀ W' : Wd, W'.μ = W.μ.set n ob → Mok G z W' → Le z W W' → P () W' := by
  cases o with
  | none => exact h.bad.elim
  | some ob => exact ⟨ob, rfl, h⟩
theorem dput_ok {o k x : D} {vo vk vx : V} {P : Unit → Wd → Prop} (kk : Mok G z W) (ro : RpW G z W o vo) (rk : RpW G z W k vk) (rx : RpW G z W x vx) (h : Wp G z W (storeD o k x) P Ex) : ∃ (a : Addr) (W' : Wd), vo = .ref a ∧ Mok G z W' ∧ Le z W W' ∧ P () W' ∧
    ((∀ ds, k ≠ .tup ds) → DPut W.H a vk vx W'.H) ∧ (∀ ds, k = .tup ds → ∃ b, vk = .ref b ∧ ∀ vs, RpsW G z W ds vs → W.H b = some (.tup vs) → DPut W.H a vk vx W'.H) := by
  cases o with
  | ref n =>
    obtain ⟨a, rfl, hm⟩ := ro.inv_ref
    have h' : (storeD (.ref n) k x W.μ).good _ := h
    cases e : W.μ[n]? with
    | none => simp only [storeD, e] at h'; exact (show False from h').elim
    | some ob =>
      simp only [storeD, e] at h'
      have ln : (∀ d, ob ≠ .fro d) → live W.μ n := fun hf => by
        unfold live
        rw [e]
        cases ob with
        | fro d => exact absurd rfl (hf d)
        | _ => trivial
      cases ob with
      | dT kvs =>
        cases k with
        | tup ds =>
          have h2 : Wp G z W (setOb n (putTo kvs ds x)) P Ex := h'
          obtain ⟨ob, e1, hP0⟩ := setOb_ok h2
          unfold putTo at e1
          cases e2 : keysOf ds with
          | none => rw [e2] at e1; cases e1
          | some ks =>
            rw [e2] at e1
            have e1 : (if kvs.length < sizeLine then some (Ob.dT (putD (hasT ks) kvs (.tup ds) x)) else none) = some ob := e1
            split at e1
            · rename_i hl
              cases e1
              obtain ⟨qs, hH, hP⟩ := kk.ob n a _ hm e
              cases rk with
              | @tup b vs ds' hb rv =>
                have ev := keysV_of rv e2
                have hP2 := putD_ok (f := hasT ks) (k := ks) (R := RdT G z W) (dk := .tup ds) (d := x) (v := vx) (fun p q r => hasT_of r.1) (fun p q r _ => ⟨r.1, rx⟩) ⟨⟨ds, rfl, ev ▸ rv⟩, rx⟩ hP
                obtain ⟨k2, l2⟩ := kk.write (ob := .dT (putD (hasT ks) kvs (.tup ds) x)) (o := .dT (L2.putK qs ks vx)) (ln fun _ q => nomatch q) hm (fun _ q => nomatch q) ⟨_, upd_same, hP2⟩
                refine ⟨a, _, rfl, k2, l2, hP0 _ rfl k2 l2, fun q => absurd rfl (q ds), fun ds' eq => ?_⟩
                cases eq
                refine ⟨b, rfl, fun vs2 rv2 hp => ?_⟩
                rw [keysV_of rv2 e2] at hp
                exact DPut.t hH hp (by rw [← paired_len hP]; exact hl)
            · cases e1
        | _ => exact (show False from h').elim
      | dK kvs =>
        have h2 : Wp G z W (setOb n (putKo kvs k x)) P Ex := h'
        obtain ⟨ob, e1, hP0⟩ := setOb_ok h2
        unfold putKo at e1
        cases e2 : keyOf k with
        | none => rw [e2] at e1; cases e1
        | some ks =>
          rw [e2] at e1
          have e1 : (if kvs.length < sizeLine then some (Ob.dK (putD (hasK ks) kvs k x)) else none) = some ob := e1
          split at e1
          · rename_i hl
            cases e1
            obtain ⟨qs, hH, hP⟩ := kk.ob n a _ hm e
            have ev := keyV_of rk e2
            have hP2 := putD_ok (f := hasK ks) (k := ks) (R := RdK G z W) (dk := k) (d := x) (v := vx) (fun p q r => hasK_of r.1) (fun p q r _ => ⟨r.1, rx⟩) ⟨ev ▸ rk, rx⟩ hP
            obtain ⟨k2, l2⟩ := kk.write (ob := .dK (putD (hasK ks) kvs k x)) (o := .dK (L2.putK qs ks vx)) (ln fun _ q => nomatch q) hm (fun _ q => nomatch q) ⟨_, upd_same, hP2⟩
            refine ⟨a, _, rfl, k2, l2, hP0 _ rfl k2 l2, fun q => ?_, fun ds eq => ?_⟩
            · rw [ev]
              exact DPut.k hH (by rw [← paired_len hP]; exact hl)
            · rw [eq] at e2
              cases e2
          · cases e1
      | _ => exact (show False from h').elim
  | _ => exact (show False from h).elim
/-- o.append(x) -/
theorem app_ok1 {o x : D} {vo vx : V} {P : Unit → Wd → Prop} (kk : Mok G z W) (ro : RpW G z W o vo) (rx : RpW G z W x vx) (h : Wp G z W (appL o x) P Ex) : ∃ (a : Addr) (vs : List V) (W' : Wd), vo = .ref a ∧ W.H a = some (.lst vs) ∧ vs.length < sizeLine ∧ W'.H = upd W.H a (.lst (vs ++ [vx])) ∧ Mok G z W' ∧ Le z W W' ∧ P () W' := by
  cases o with
  | ref n =>
    obtain ⟨a, rfl, hm⟩ := ro.inv_ref
    have h' : (appL (.ref n) x W.μ).good _ := h
    cases e : W.μ[n]? with
    | none => simp only [appL, e] at h'; exact (show False from h').elim
    | some ob =>
      simp only [appL, e] at h'
      cases ob with
      | lst xs =>
        simp only at h'
        split at h'
        · rename_i hl
          obtain ⟨vs, hH, rv⟩ := kk.ob n a _ hm e
          obtain ⟨k2, l2⟩ := kk.write (ob := .lst (xs ++ [x])) (o := .lst (vs ++ [vx])) (by unfold live; rw [e]; trivial) hm (fun _ q => nomatch q) ⟨_, upd_same, rv.append (.cons rx .nil)⟩
          exact ⟨a, vs, _, rfl, hH, by rw [← rv.len]; exact hl, rfl, k2, l2, h' _ rfl k2 l2⟩
        · exact (show False from h').elim
      | _ => exact (show False from h').elim
  | _ => exact (show False from h).elim
end
end DL
/-! DL9: SOUND: a checked expression does what the interpreter says -/
namespace DL
open PySem PyProof.Rows L2 PySem.Spec

theorem Rps.rev {G : Gx} {F : Hp} {m : List Addr} : ∀ {ds : List D} {vs : List V}, Rps G F m ds vs → Rps G F m ds.reverse vs.reverse
  | _, _, .nil => .nil
  | _, _, .cons h t => by
    rw [List.reverse_cons, List.reverse_cons]
    exact t.rev.append (.cons h .nil)
structure Snd (G : Gx) (C : Nat → List D → M D) (Kc : Nat → D) (e : Ez) : Prop where
  E : ∀ {Γ X Wx}, Good G C Kc Γ X Wx → ∀ x, (ck e).e Γ x = true → PE X x (tD G Wx (ev C Kc e).e)
  T : ∀ {Γ X Wx}, Good G C Kc Γ X Wx → ∀ x, (ck e).t Γ x = true → PT X x (tT G Wx (ev C Kc e).t)
  Es : ∀ {Γ X Wx}, Good G C Kc Γ X Wx → ∀ xs, (ck e).es Γ xs = true → PA X xs (tA G Wx (ev C Kc e).es)
  I : ∀ {Γ X Wx}, Good G C Kc Γ X Wx → ∀ tg x, (ck e).i Γ (isTup tg) x = true → (Γ.hot = false → PI X tg x (tI G Wx (ev C Kc e).i)) ∧ (Γ.hot = true → L2H.PIH X tg x (tI G Wx (ev C Kc e).i))
  P : ∀ {Γ X Wx}, Good G C Kc Γ X Wx → ∀ o, (ck e).p Γ o = true → PO X o (tO G Wx (ev C Kc e).p)
  B : ∀ {Γ X Wx}, Good G C Kc Γ X Wx → ∀ o xs pos, (ck e).b Γ o xs = true → PE X (.BoolOp o xs pos) (tD G Wx ((ev C Kc e).b o))
  BT : ∀ {Γ X Wx}, Good G C Kc Γ X Wx → ∀ o xs pos, (ck e).bt Γ o xs = true → PW X (.BoolOp o xs pos) (tT G Wx ((ev C Kc e).bt o))
  L : ∀ {Γ X Wx}, Good G C Kc Γ X Wx → ∀ x, (ck e).l Γ x = true → PE X x (tL G Wx (ev C Kc e).l)

section
variable {G : Gx} {C : Nat → List D → M D} {Kc : Nat → D} {Γ : Cxt} {X : Cx} {Wx : WX} {f : Env → M D} {x : Expr}
theorem t_ofE (g : Good G C Kc Γ X Wx) (h : PE X x (tD G Wx f)) (hp : plainTest x = true) : PT X x (tT G Wx fun ρ => (f ρ).bind truth) := by
  refine impPT (pt_truth h (plain_of hp)) fun σ H Q h => un1 h fun z ρ W d v k r rv h => ?_
  rw [g.K]
  exact truth_ok k rv h
theorem impPIH {g e : Expr} {t t' : TI} (h : L2H.PIH X g e t) (hi : ∀ σ H Q, t' σ H Q → t σ H Q) : L2H.PIH X g e t' := ⟨fun pins s σ H Q I q => h.run pins s σ H Q I (hi σ H Q q)⟩
theorem i_ofE (g : Good G C Kc Γ X Wx) {tg : Expr} (h : PE X x (tD G Wx f)) : (Γ.hot = false → PI X tg x (tI G Wx fun ρ => (f ρ).bind still)) ∧ (Γ.hot = true → L2H.PIH X tg x (tI G Wx fun ρ => (f ρ).bind still)) := by
  have key : ∀ σ H Q, tI G Wx (fun ρ => (f ρ).bind still) σ H Q → iSeq X.K (tD G Wx f) σ H Q := fun σ H Q h => un1 h fun z ρ W d v k r rv h => by
    rw [g.K]
    cases d with
    | lst xs =>
      cases rv with
      | @lst a vs ds h1 h2 => exact ⟨a, rfl, .inl ⟨⟨vs, SqL.of (F_sub h1)⟩, h.pure0 k _ (it_list h1 h2)⟩⟩
    | tup xs =>
      cases rv with
      | @tup a vs ds h1 h2 => exact ⟨a, rfl, .inr ⟨⟨vs, sqT_of h1⟩, h.pure0 k _ (it_tup h1 h2)⟩⟩
    | _ => exact (show False from h).elim
  exact ⟨fun _ => impPI (pi_seq h) key, fun _ => impPIH (L2H.pi_seqH h) key⟩
theorem p_ofE (g : Good G C Kc Γ X Wx) (h : PE X x (tD G Wx f)) : PO X (some x) (tO G Wx fun ρ => (f ρ).bind asInt) := by
  refine impPO (po_some h) fun σ H Q h => un1 h fun z ρ W d v k r rv h => ?_
  cases d with
  | int i =>
    cases rv
    exact ⟨i, rfl, h.pure0 k⟩
  | _ => exact (show False from h).elim
end
section
variable {G : Gx} {C : Nat → List D → M D} {Kc : Nat → D} {e : Ez}
theorem Snd.ofE {f : Env → M D} {c : Cxt → Expr → Bool} (h1 : ck e = Ck.ofE c) (h2 : ev C Kc e = Fn.ofE f) (h : ∀ {Γ X Wx}, Good G C Kc Γ X Wx → ∀ x, c Γ x = true → PE X x (tD G Wx f)) : Snd G C Kc e := by
  refine ⟨?_, ?_, ?_, ?_, ?_, ?_, ?_, ?_⟩
  all_goals rw [h1, h2]
  · exact fun g x hx => h g x hx
  · intro Γ X Wx g x hx
    obtain ⟨q1, q2⟩ := (Bool.and_eq_true_iff.mp (show (c Γ x && plainTest x) = true from hx))
    exact t_ofE g (h g x q1) q2
  · exact fun g x hx => nomatch (show false = true from hx)
  · intro Γ X Wx g tg x hx
    obtain ⟨q1, q2⟩ := (Bool.and_eq_true_iff.mp (show (c Γ x && notSet x) = true from hx))
    exact i_ofE g (h g x q1)
  · intro Γ X Wx g o hx
    cases o with
    | none => exact nomatch (show false = true from hx)
    | some x => exact p_ofE g (h g x hx)
  · exact fun g o x p hx => nomatch (show false = true from hx)
  · exact fun g o x p hx => nomatch (show false = true from hx)
  · exact fun g x hx => nomatch (show false = true from hx)
/-- as Snd.ofE, with a test of its own -/
theorem Snd.ofET {f : Env → M D} {c : Cxt → Expr → Bool} {ft : Env → M Bool} {ct : Cxt → Expr → Bool} (h1 : ck e = { Ck.ofE c with t := ct }) (h2 : ev C Kc e = { Fn.ofE f with t := ft }) (h : ∀ {Γ X Wx}, Good G C Kc Γ X Wx → ∀ x, c Γ x = true → PE X x (tD G Wx f))
    (ht : ∀ {Γ X Wx}, Good G C Kc Γ X Wx → ∀ x, ct Γ x = true → PT X x (tT G Wx ft)) : Snd G C Kc e := by
  refine ⟨?_, ?_, ?_, ?_, ?_, ?_, ?_, ?_⟩
  all_goals rw [h1, h2]
  · exact fun g x hx => h g x hx
  · exact fun g x hx => ht g x hx
  · exact fun g x hx => nomatch (show false = true from hx)
  · intro Γ X Wx g tg x hx
    obtain ⟨q1, q2⟩ := (Bool.and_eq_true_iff.mp (show (c Γ x && notSet x) = true from hx))
    exact i_ofE g (h g x q1)
  · intro Γ X Wx g o hx
    cases o with
    | none => exact nomatch (show false = true from hx)
    | some x => exact p_ofE g (h g x hx)
  · exact fun g o x p hx => nomatch (show false = true from hx)
  · exact fun g o x p hx => nomatch (show false = true from hx)
  · exact fun g x hx => nomatch (show false = true from hx)
/-- as Snd.ofE, with a new list -/
theorem Snd.ofEL {f : Env → M D} {c : Cxt → Expr → Bool} {fl : Env → M (List D)} {cl : Cxt → Expr → Bool} (h1 : ck e = { Ck.ofE c with l := cl }) (h2 : ev C Kc e = { Fn.ofE f with l := fl }) (h : ∀ {Γ X Wx}, Good G C Kc Γ X Wx → ∀ x, c Γ x = true → PE X x (tD G Wx f))
    (ht : ∀ {Γ X Wx}, Good G C Kc Γ X Wx → ∀ x, cl Γ x = true → PE X x (tL G Wx fl)) : Snd G C Kc e := by
  refine ⟨?_, ?_, ?_, ?_, ?_, ?_, ?_, ?_⟩
  all_goals rw [h1, h2]
  · exact fun g x hx => h g x hx
  · intro Γ X Wx g x hx
    obtain ⟨q1, q2⟩ := (Bool.and_eq_true_iff.mp (show (c Γ x && plainTest x) = true from hx))
    exact t_ofE g (h g x q1) q2
  · exact fun g x hx => nomatch (show false = true from hx)
  · intro Γ X Wx g tg x hx
    obtain ⟨q1, q2⟩ := (Bool.and_eq_true_iff.mp (show (c Γ x && notSet x) = true from hx))
    exact i_ofE g (h g x q1)
  · intro Γ X Wx g o hx
    cases o with
    | none => exact nomatch (show false = true from hx)
    | some x => exact p_ofE g (h g x hx)
  · exact fun g o x p hx => nomatch (show false = true from hx)
  · exact fun g o x p hx => nomatch (show false = true from hx)
  · exact fun g x hx => ht g x hx
theorem Snd.ofLL {fl : Env → M (List D)} {cl : Cxt → Expr → Bool} (h1 : ck e = { Ck.ofE cl with l := cl }) (h2 : ev C Kc e = Fn.ofL fl)
    (ht : ∀ {Γ X Wx}, Good G C Kc Γ X Wx → ∀ x, cl Γ x = true → PE X x (tL G Wx fl)) : Snd G C Kc e :=
  Snd.ofEL (f := fun ρ => (fl ρ).bind fun xs => M.pure (.lst xs)) h1 h2 (fun g x hx => impPE (ht g x hx) fun σ H Q q => tD_of_tL q) ht
theorem Snd.ofI {f : Env → M (List D)} {c : Cxt → Bool → Expr → Bool} (h1 : ck e = Ck.ofI c) (h2 : ev C Kc e = Fn.ofI f)
    (h : ∀ {Γ X Wx}, Good G C Kc Γ X Wx → ∀ tg x, c Γ (isTup tg) x = true → (Γ.hot = false → PI X tg x (tI G Wx f)) ∧ (Γ.hot = true → L2H.PIH X tg x (tI G Wx f))) : Snd G C Kc e := by
  refine ⟨?_, ?_, ?_, ?_, ?_, ?_, ?_, ?_⟩
  all_goals rw [h1, h2]
  · exact fun g x hx => nomatch (show false = true from hx)
  · exact fun g x hx => nomatch (show false = true from hx)
  · exact fun g x hx => nomatch (show false = true from hx)
  · exact fun g tg x hx => h g tg x hx
  · intro Γ X Wx g o hx
    cases o <;> exact nomatch (show false = true from hx)
  · exact fun g o x p hx => nomatch (show false = true from hx)
  · exact fun g o x p hx => nomatch (show false = true from hx)
  · exact fun g x hx => nomatch (show false = true from hx)
end
theorem get_ok {G : Gx} {z : List Addr} {W : Wd} {ρ : Env} {σ : L2.St} {i : Nat} {P : D → Wd → Prop} {Ex : Nat → List D → Wd → Prop} (k : Mok G z W) (r : EnvR G z W ρ σ) (h : Wp G z W (get ρ i) P Ex) :
    ∃ d v, σ[i]? = some (some v) ∧ RpW G z W d v ∧ P d W := by
  unfold get at h
  cases e : ρ[i]? with
  | none => rw [e] at h; exact h.bad.elim
  | some o =>
    cases o with
    | none => rw [e] at h; exact h.bad.elim
    | some d =>
      rw [e] at h
      obtain ⟨v, h1, h2⟩ := r.at_ i d e
      exact ⟨d, v, h1, h2, h.pure0 k⟩
theorem res_ok {G : Gx} {z : List Addr} {W : Wd} {d : D} {v : V} {P : D → Wd → Prop} {Ex : Nat → List D → Wd → Prop} (k : Mok G z W) (r : RpW G z W d v) (h : Wp G z W (res d) P Ex) : ∃ d', RpW G z W d' v ∧ P d' W := by
  have stay : Wp G z W (M.pure d) P Ex → ∃ d', RpW G z W d' v ∧ P d' W := fun h => ⟨d, r, h.pure0 k⟩
  cases d with
  | ref n =>
    have h' : (res (.ref n) W.μ).good _ := h
    obtain ⟨a, rfl, hm⟩ := r.inv_ref
    cases e : W.μ[n]? with
    | none => simp only [res, e] at h'; exact stay h'
    | some o =>
      simp only [res, e] at h'
      cases o with
      | fro x => exact ⟨x, k.ob n a _ hm e, h' W rfl k (Le.refl _ _)⟩
      | lst _ => exact stay h'
      | dK _ => exact stay h'
      | dT _ => exact stay h'
      | cup => exact stay h'
  | _ => exact stay h
theorem frz_ok {G : Gx} {z : List Addr} {W : Wd} {d : D} {v : V} {P : D → Wd → Prop} {Ex : Nat → List D → Wd → Prop} (k : Mok G z W) (r : RpW G z W d v) (h : Wp G z W (frz d) P Ex) : ∃ d' W', W'.H = W.H ∧ Mok G z W' ∧ Le z W W' ∧ RpW G z W' d' v ∧ P d' W' := by
  have stay : Wp G z W (M.pure d) P Ex → ∃ d' W', W'.H = W.H ∧ Mok G z W' ∧ Le z W W' ∧ RpW G z W' d' v ∧ P d' W' := fun h => ⟨d, W, rfl, k, Le.refl _ _, r, h.pure0 k⟩
  cases d with
  | ref n =>
    have h' : (frz (.ref n) W.μ).good _ := h
    obtain ⟨a, rfl, hm⟩ := r.inv_ref
    cases e : W.μ[n]? with
    | none => simp only [frz, e] at h'; exact (show False from h').elim
    | some o =>
      simp only [frz, e] at h'
      cases o with
      | fro x => exact ⟨x, W, rfl, k, Le.refl _ _, k.ob n a _ hm e, h' W rfl k (Le.refl _ _)⟩
      | lst xs =>
        obtain ⟨k1, l1, r1⟩ := k.freeze hm e
        exact ⟨_, ⟨W.m, W.μ.set n (.fro (.lst xs)), W.H⟩, rfl, k1, l1, r1, h' ⟨W.m, W.μ.set n (.fro (.lst xs)), W.H⟩ rfl k1 l1⟩
      | dK _ => exact (show False from h').elim
      | dT _ => exact (show False from h').elim
      | cup => exact (show False from h').elim
  | _ => exact stay h
theorem T.good_and {α : Type} {P Q : α → Prop} : ∀ {t : T α}, t.good P → t.good Q → t.good fun a => P a ∧ Q a
  | .ret a, p, q => ⟨p, q⟩
  | .roll n k, p, q => fun r hr => T.good_and (p r hr) (q r hr)
def isBl : R D → Prop
  | .ok d _ => ∃ k, d = .bl k
  | _ => True
theorem bl_bind {α : Type} {m : M α} {f : α → M D} (h : ∀ a μ, (f a μ).good isBl) (μ : Mem) : (M.bind m f μ).good isBl := by
  have key : ∀ t : T (R α), (t.bind (M.andThen f)).good isBl := by
    intro t
    induction t with
    | ret r =>
      cases r with
      | ok a μ' => exact h a μ'
      | exc c xs μ' => exact True.intro
      | bad => exact True.intro
    | roll n k ih => exact fun r hr => ih r
  exact key (m μ)
theorem cmp_bl (c : Cp) (a b : D) (μ : Mem) : (cmpop c a b μ).good isBl := by
  have no : (M.bad (α := D) μ).good isBl := True.intro
  have yes : ∀ (k : Bool) (μ : Mem), (M.pure (.bl k) μ : T (R D)).good isBl := fun k μ => ⟨k, rfl⟩
  cases c with
  | eq =>
    refine bl_bind (fun x μ => bl_bind (fun y μ => ?_) μ) μ
    unfold eqvM
    cases D.eqv x y with
    | some k => exact yes _ _
    | none => exact True.intro
  | ne =>
    refine bl_bind (fun x μ => bl_bind (fun y μ => ?_) μ) μ
    unfold eqvM
    cases D.eqv x y with
    | some k => exact yes _ _
    | none => exact True.intro
  | mem =>
    refine bl_bind (fun xs μ => ?_) μ
    split
    · exact yes _ _
    · exact True.intro
  | nmem =>
    refine bl_bind (fun xs μ => ?_) μ
    split
    · exact yes _ _
    · exact True.intro
  | isN => cases b <;> first | exact yes _ _ | exact no
  | isB => cases a <;> cases b <;> first | exact yes _ _ | exact no
  | notB => cases a <;> cases b <;> first | exact yes _ _ | exact no
  | notN => cases b <;> first | exact yes _ _ | exact no
  | _ => cases a <;> cases b <;> first | exact yes _ _ | exact no
theorem cmp_k {G : Gx} {z : List Addr} {W : Wd} {c : Cp} {a b : D} {P : D → Wd → Prop} {Ex : Nat → List D → Wd → Prop} (h : Wp G z W (cmpop c a b) P Ex) : Wp G z W (cmpop c a b) (fun d W' => (∃ k, d = .bl k) ∧ P d W') Ex := by
  refine T.good_mono (fun r q => ?_) (T.good_and (cmp_bl c a b W.μ) h)
  obtain ⟨q1, q2⟩ := q
  cases r with
  | ok d μ' => exact fun W' e k l => ⟨q1, q2 W' e k l⟩
  | exc c xs μ' => exact q2
  | bad => exact q2
theorem Run.bind {G : Gx} {Wx : WX} {α β : Type} {f : Env → M α} {k : α → M β} {σ : L2.St} {H : Hp} {P : List Addr → β → Wd → Prop} (h : Run G Wx (fun ρ => (f ρ).bind k) σ H P) : Run G Wx f σ H (fun z a W => Wp G z W (k a) (P z) (exW G z Wx σ)) :=
  let ⟨z, ρ, W, e, k, r, h⟩ := h
  ⟨z, ρ, W, e, k, r, h.bind⟩
theorem tri3 {G : Gx} {Wx : WX} {α : Type} {f : Env → M D} {l u : Env → M (Option Int)} {op : D → Option Int → Option Int → M α} {σ : L2.St} {H : Hp} {P : List Addr → α → Wd → Prop} {R : V → Option Int → Option Int → Hp → VK → Prop} {Q : VK}
    (h : Run G Wx (fun ρ => (f ρ).bind fun x => (l ρ).bind fun a => (u ρ).bind fun b => op x a b) σ H P)
    (hr : ∀ z W d v lo hi, Mok G z W → RpW G z W d v → Wp G z W (op d lo hi) (P z) (exW G z Wx σ) → R v lo hi W.H Q) : tSl R (tD G Wx f) (tO G Wx l) (tO G Wx u) σ H Q := by
  refine un1 h fun z ρ W d v k r rv h => ?_
  refine ⟨z, ρ, W, rfl, k, r, h.bind.mono (fun lo W1 k1 l1 h1 => ?_) fun _ _ _ _ _ q => q⟩
  refine ⟨z, ρ, W1, rfl, k1, r.le l1, h1.bind.mono (fun hi W2 k2 l2 h2 => ?_) fun _ _ _ _ _ q => q⟩
  exact hr z W2 d v lo hi k2 ((rv.le l1).le l2) h2
theorem tri2 {G : Gx} {Wx : WX} {α : Type} {f g u : Env → M D} {op : Env → D → D → D → M α} {σ : L2.St} {H : Hp} {P : List Addr → α → Wd → Prop} (h : Run G Wx (fun ρ => (f ρ).bind fun x => (g ρ).bind fun y => (u ρ).bind fun w => op ρ x y w) σ H P) {R : V → V → V → Hp → Prop}
    (hr : ∀ z ρ W d1 d2 d3 v1 v2 v3, Mok G z W → EnvR G z W ρ σ → RpW G z W d1 v1 → RpW G z W d2 v2 → RpW G z W d3 v3 → Wp G z W (op ρ d1 d2 d3) (P z) (exW G z Wx σ) → R v1 v2 v3 W.H) :
    tD G Wx f σ H fun x H1 => tD G Wx g σ H1 fun y H2 => tD G Wx u σ H2 fun w H3 => R x y w H3 :=
  un1 h fun z ρ W d v k r rv h1 => ⟨z, ρ, W, rfl, k, r, h1.bind.mono (fun d2 W2 k2 l2 h2 v2 rv2 => ⟨z, ρ, W2, rfl, k2, r.le l2, h2.bind.mono (fun d3 W3 k3 l3 h3 v3 rv3 => hr z ρ W3 d d2 d3 v v2 v3 k3 ((r.le l2).le l3) ((rv.le l2).le l3) (rv2.le l3) rv3 h3) fun _ _ _ _ _ q => q⟩) fun _ _ _ _ _ q => q⟩
theorem rgC_of {i j c : Int} (hb : (-lim ≤ i ∧ i < lim) ∧ (-lim ≤ j ∧ j < lim)) (h : rng3ok i j c = true) : RgC i j c (rngN i j c) := by
  unfold rngN
  by_cases q : c = -1
  · rw [if_pos q, q]
    exact RgC.neg hb.1.1 hb.1.2 hb.2.1 hb.2.2
  · rw [if_neg q]
    unfold rng3ok at h
    rw [decide_eq_false q, Bool.false_or] at h
    simp only [Bool.and_eq_true, decide_eq_true_eq] at h
    exact ⟨h.1.1.1, h.1.1.2, h.1.2, (Int.toNat_of_nonneg h.2).symm⟩
theorem it_rngC {G : Gx} {F : Hp} {m : List Addr} {lo c : Int} {n : Nat} : ItR G F m (Itc lo c n) ((List.range n).map fun (i : Nat) => D.int (lo + (i : Int) * c)) := by
  intro z W k e hm
  refine ⟨fun i d hd => ?_, fun i hi => by
    show n ≤ i
    simpa using hi⟩
  rw [List.getElem?_map] at hd
  have hi : i < n := by
    by_cases q : i < n
    · exact q
    · rw [List.getElem?_eq_none (by simpa using q)] at hd
      cases hd
  rw [List.getElem?_range hi] at hd
  cases hd
  refine ⟨hi, fun x H' hy => ?_⟩
  obtain ⟨e1, e2⟩ := hy
  exact ⟨W, e1.symm, rfl, k, Le.refl _ _, by rw [e2]; exact .int _⟩
theorem index_of {G : Gx} {z : List Addr} {W : Wd} {a : D} {v : V} (ra : RpW G z W a v) (ha : a.flat = true) : ∀ {ds : List D} {vs : List V} {j : Nat}, RpsW G z W ds vs → ds.all D.flat = true → (ds.findIdx? fun y => D.eqF y a) = some j →
    ∃ w', vs[j]? = some w' ∧ eqV w' v = true ∧ ∀ (m : Nat) (z' : V), m < j → vs[m]? = some z' → eqV z' v = false
  | [], _, j, .nil, _, h => by cases h
  | d :: ds, _, j, .cons (v := u) (vs := us) hd ht, e, h => by
    simp only [List.all_cons, Bool.and_eq_true] at e
    have eu : eqV u v = D.eqF d a := eqF_of hd ra e.1 ha
    rw [List.findIdx?_cons] at h
    cases q : D.eqF d a with
    | true =>
      rw [q, if_pos rfl] at h
      cases h
      exact ⟨u, rfl, eu.trans q, fun m z' hm => absurd hm (Nat.not_lt_zero _)⟩
    | false =>
      rw [q, if_neg Bool.false_ne_true] at h
      cases qq : (ds.findIdx? fun y => D.eqF y a) with
      | none => rw [qq] at h; cases h
      | some i =>
        rw [qq] at h
        cases h
        obtain ⟨w', h1, h2, h3⟩ := index_of ra ha ht e.2 qq
        refine ⟨w', h1, h2, fun m z' hm hz => ?_⟩
        cases m with
        | zero =>
          cases hz
          exact eu.trans q
        | succ m => exact h3 m z' (Nat.lt_of_succ_lt_succ hm) hz
theorem tL_of_mkl {G : Gx} {Wx : WX} {σ : L2.St} {H : Hp} {Q : VK} {f : Env → M (List D)} (h : tD G Wx (fun ρ => (f ρ).bind fun xs => alloc (.lst xs)) σ H Q) : tL G Wx f σ H Q := by
  obtain ⟨z, ρ, W, e, k, rr, h⟩ := h
  refine ⟨z, ρ, W, e, k, rr, h.bind.mono (fun ds W1 k1 l1 h1 vs rv p hp => ?_) fun _ _ _ _ _ q => q⟩
  obtain ⟨k2, l2, m2⟩ := k1.newRef (o := .lst vs) (ob := .lst ds) hp (fun _ q => nomatch q) fun F e => ⟨vs, upd_same, rv.mono e fun i a q => by
    have hi : i < W1.m.length := (List.getElem?_eq_some_iff.mp q).1
    rw [List.getElem?_append_left hi]
    exact q⟩
  exact h1 ⟨W1.m ++ [p], W1.μ ++ [.lst ds], upd W1.H p (.lst vs)⟩ rfl k2 l2 (.ref p) (.ref m2)
theorem pe_callS0 {X : Cx} {CX : CXT} {k : Nat} {f : Addr} {fd : FuncData} {ps : List Str} {sp : Sp} {E : L2.St → XK} {x : Str} {p pos : Pos} (F : FnOk X.prog X.w X.K X.mg X.base CX k f fd ps sp) (hr : Room k X.A) (hg : Gl X x)
    (hm : X.mg x = some (.ref f)) (hk : PySem.W.keepIn X.K (.ref f) = true) (hb : Binds X.K fd ps []) (hx : ∀ σ, PassesAt CX X σ (E σ)) (hdb : (x == ("__debug__" : Str)) = false) : PE X (.Call (.Name x p) [] [] pos) (fun σ H Q => sp [] H Q (E σ)) := by
  constructor
  intro pins s σ H Q I h
  exact wpAny_Call_Name_kw (ld_glob I hg hm (PySem.W.callWith_K0 I.kIn hk (run_fnS (us := []) F hr hb (hx σ) I .nil h)) hdb)
theorem nil_es {es : Ez} {Γ : Cxt} {C : Nat → List D → M D} {Kc : Nat → D} (h : (ck es).es Γ [] = true) : (ev C Kc es).es = fun _ => M.pure [] := by
  cases es with
  | nil => rfl
  | _ => exact absurd h (by simp [ck, Ck.ofE, Ck.ofI])
theorem takesN0 {X : Cx} : L2N.Takes X W0 := fun u s' x => by
  obtain ⟨_, _, _, _, _, _, _, _, _, _, _, _, _, _, _, _, z⟩ := x
  exact z.elim
theorem Good.blk {G : Gx} {C : Nat → List D → M D} {Kc : Nat → D} {Γ : Cxt} {X : Cx} {Wx : WX} (g : Good G C Kc Γ X Wx) (eh : Γ.hot = false) (st : Shared) (H : Hp) (s : Scope) (Cc : Addr) (cl : List (Str × Addr)) (fp : List Addr) :
    Good G C Kc { Γ with sc := relS s Γ.sc, own := some s } (X.blk st H s (compEnvC s cl Cc X.env) fp) W0 where
  K := g.K
  N := g.N
  nd := g.nd
  sc := by
    show relabel s X.env = relS s Γ.sc
    rw [← g.sc]
    rfl
  calm := g.calm
  hotc := fun e => by
    have e : Γ.hot = true := e
    rw [eh] at e
    cases e
  fn := rfl
  tk := takesN0
  room := g.room
  bi := g.bi
  con := g.con
  gcd := g.gcd
  fns := g.fns
  arity := g.arity
  nf := g.nf
  fnr := g.fnr
  calls := g.calls
  lamc := g.lamc
  errs := g.errs
  exk := g.exk
  exr := g.exr
  hx := fun e => by
    have e : Γ.hot = true := e
    rw [eh] at e
    cases e
theorem Good.blkH {G : Gx} {C : Nat → List D → M D} {Kc : Nat → D} {Γ : Cxt} {X : Cx} {Wx : WX} (g : Good G C Kc Γ X Wx) (st : Shared) (H : Hp) (s : Scope) (Cc : Addr) (cl : List (Str × Addr)) (fp : List Addr) :
    Good G C Kc { Γ with sc := relS s Γ.sc, own := some s } (L2H.blkH X st H s (compEnvC s cl Cc X.env) fp) W0 where
  K := g.K
  N := g.N
  nd := g.nd
  sc := by
    show relabel s X.env = relS s Γ.sc
    rw [← g.sc]
    rfl
  calm := g.calm
  hotc := fun e => L2H.hot_blk (g.hotc e)
  fn := rfl
  tk := takesN0
  room := g.room
  bi := g.bi
  con := g.con
  gcd := g.gcd
  fns := g.fns
  arity := g.arity
  nf := g.nf
  fnr := g.fnr
  calls := g.calls
  lamc := g.lamc
  errs := g.errs
  exk := g.exk
  exr := g.exr
  hx := fun _ e => nomatch (show some s = none from e)
theorem Good.lamN {G : Gx} {C : Nat → List D → M D} {Kc : Nat → D} {Γ : Cxt} {X : Cx} {Wx : WX} (g : Good G C Kc Γ X Wx) (eh : Γ.hot = false) {j : Nat} (cs : ∀ k x n, Γ.fns[k]? = some (x, n) → ∃ fd ps, Binds X.K fd ps [] ∧ FnOk X.prog X.w X.K X.mg X.base (L2N.CX X.prog X.w) j (G.fa k) fd ps (spD G n (C k)))
    {scope : Scope} (L : LamX.LamS X.env.scope scope) (A : Around) (outer : List PySem.Env) (s : Shared) (H : Hp) (E : XK) (f c' : Addr) (hr : Room j (A.deeper (LamX.lamEnv X scope s.heap.objs.size f c'))) :
    Good G C Kc { Γ with sc := scope, own := some scope, lam := false, ers := [] } (LX.lamN X A outer s H E scope f c') (fun cls d _ H' => E cls d H') where
  K := g.K
  N := g.N
  nd := g.nd
  sc := rfl
  calm := fun _ => rfl
  hotc := fun e => by
    have e : Γ.hot = true := e
    rw [eh] at e
    cases e
  fn := by
    show (fun _ => false) = fun x => scope.names.lookup x == some .cell
    funext x
    cases q : scope.names.lookup x with
    | none => rfl
    | some kd =>
      have := (L.own _ (PySem.mem_of_lookup q)).2
      cases kd with
      | cell => exact absurd rfl this
      | _ => rfl
  tk := LX.lamN_takes
  room := hr.units
  bi := g.bi
  con := g.con
  gcd := g.gcd
  fns := g.fns
  arity := g.arity
  nf := g.nf
  fnr := g.fnr
  calls := fun _ => ⟨j, hr, cs⟩
  lamc := fun e => nomatch (show false = true from e)
  errs := fun k x e => nomatch (show none = some x from e)
  exk := g.exk
  exr := g.exr
  hx := fun e => by
    have e : Γ.hot = true := e
    rw [eh] at e
    cases e
/-- a call of a name of one's own that holds a def -/
theorem pe_callLS {X : Cx} {CX : CXT} {k i : Nat} {E : L2.St → XK} {x : Str} {p pos : Pos} {e : Expr} {es : List Expr} {t : TA} (hr : Room k X.A) (hN : X.N[i]? = some x) (hv : Vis X.env.scope x) (hx : ∀ σ, PassesAt CX X σ (E σ)) (ha : PA X (e :: es) t)
    (hdb : (x == ("__debug__" : Str)) = false) (hcd : (x == ("__classdict__" : Str)) = false) (he : starEach (e :: es) X.env = (false, eval e X.env) :: starEach es X.env) (hpl : (backTo pos (starEach es X.env)).any (·.1) = false) :
    PE X (.Call (.Name x p) (e :: es) [] pos) (fun σ H Q => ∃ f fd ps sp, σ[i]? = some (some (.ref f)) ∧ PySem.W.keepIn X.K (.ref f) = true ∧ Binds X.K fd ps [] ∧ FnOk X.prog X.w X.K X.mg X.base CX k f fd ps sp ∧ t σ H fun vs H1 => sp vs H1 Q (E σ)) := by
  constructor
  rintro pins s σ H Q I ⟨f, fd, ps, sp, hs, hk, hb, F, ht⟩
  refine wpAny_Call_Name_kw (thn ((pe_var (pos := p) hN hv hdb hcd).run pins s σ H (fun v H1 => v = .ref f ∧ H1 = H) I ⟨.ref f, hs, rfl, rfl⟩) ?_)
  rintro u s1 ⟨v, H1, I1, r1, rfl, rfl⟩
  cases r1
  refine PySem.W.callWith_K (h₀ := X.base) I.ok.mod.kin hk (thn (ha.run pos pins s1 σ _ _ I1 ht) ?_) he hpl
  rintro us s2 ⟨vs, H2, I2, r, q⟩
  exact ⟨I2.kIn, run_fnS F hr hb (hx σ) I2 r q⟩
theorem nosl_of {e : Expr} (h : notSlice e = true) : NoSl e := by
  intro o i
  cases e <;> first | rfl | cases h
theorem lens_of {α β : Type} {xs : List α} {ys : List β} (h : xs.length = ys.length) : (xs.zip ys).map (·.2) = ys := by
  rw [← List.unzip_snd, List.unzip_zip h]
theorem and4 {a b : Bool} (h : (a && b) = true) : a = true ∧ b = true := Bool.and_eq_true_iff.mp h

/-- all that the comprehension's rules ask -/
theorem lc_with {G : Gx} {C : Nat → List D → M D} {Kc : Nat → D} {Γ : Cxt} {X : Cx} {Wx : WX} (g : Good G C Kc Γ X Wx) {tg : Tz} {it cond elt : Ez} (sit : Snd G C Kc it) (scond : Snd G C Kc cond) (selt : Snd G C Kc elt) {x : Expr} (hx : (ck (.lc tg it cond elt)).e Γ x = true) {R : Prop} (Y : Shared → Hp → Scope → Addr → List (Str × Addr) → List Addr → Cx) (gb : ∀ st H s Cc cl fp, Good G C Kc { Γ with sc := relS s Γ.sc, own := some s } (Y st H s Cc cl fp) W0)
    (hR : ∀ (y tgx itx : Expr) (ifs : List Expr) (s : Scope) (pos : Pos) (own : List (Str × Nat)), x = .ListComp y [⟨tgx, itx, ifs, 0⟩] s pos → own.map (·.2) = tg.slots → ((Γ.hot = false → PI X tgx itx (tI G Wx (ev C Kc it).i)) ∧ (Γ.hot = true → L2H.PIH X tgx itx (tI G Wx (ev C Kc it).i))) → BlkOk X.N X.env.scope s own →
      (∀ (st : Shared) (H : Hp) (Cc : Addr) (cl : List (Str × Addr)) (fp : List Addr), PG (Y st H s Cc cl fp) tgx (tTg G tg)) →
      (∀ (st : Shared) (H : Hp) (Cc : Addr) (cl : List (Str × Addr)) (fp : List Addr), PTs (Y st H s Cc cl fp) ifs (tT G W0 (ev C Kc cond).t)) →
      (∀ (st : Shared) (H : Hp) (Cc : Addr) (cl : List (Str × Addr)) (fp : List Addr), PE (Y st H s Cc cl fp) y (tD G W0 (ev C Kc elt).e)) → (∀ v, foldedSetIterable itx X.env v = pure v) → R) : R := by
  have hx : ckLc tg (ck it) (ck cond) (ck elt) (isNil cond) Γ x = true := hx
  unfold ckLc at hx
  split at hx
  · rename_i y tgx itx ifs as s pos h0
    obtain ⟨hx, h6⟩ := and4 hx
    obtain ⟨hx, h5⟩ := and4 hx
    obtain ⟨hx, h4⟩ := and4 hx
    obtain ⟨hx, h3⟩ := and4 hx
    obtain ⟨h1, h2⟩ := and4 hx
    obtain ⟨h6, h8⟩ := and4 h6
    obtain ⟨h6, h7⟩ := and4 h6
    cases of_decide_eq_true h1
    refine hR y tgx itx ifs s pos _ rfl (lens_of (of_decide_eq_true h4)) (sit.I g tgx _ h3) (blkOk_by (by rw [g.N, g.sc]; exact h5)) (fun st H Cc cl fp => pg_ok (gb st H s Cc cl fp) tg tgx h6) ?_ (fun st H Cc cl fp => selt.E (gb st H s Cc cl fp) y h8) (set_of h2)
    intro st H Cc cl fp
    split at h7
    · cases cond with
      | nil =>
        refine ⟨fun pins s σ H Q I h => pts_nil.run pins s σ H Q I ?_⟩
        obtain ⟨z, ρ, W, e, k, rr, h⟩ := h
        subst e
        exact h.pure0 k
      | _ => cases h7
    · exact pts_one (scond.T (gb st H s Cc cl fp) _ (and4 h7).2)
    · cases h7
  · cases hx

theorem strs_of {G : Gx} {F : Hp} {m : List Addr} : ∀ {ds : List D} {vs : List V} {ys : List Str}, Rps G F m ds vs → strsOf ds = some ys → vs = ys.map V.str
  | [], _, _, .nil, e => by cases e; rfl
  | d :: ds, _, ys, .cons h t, e => by
    cases d with
    | str i =>
      simp only [strsOf] at e
      cases q : strsOf ds with
      | none => rw [q] at e; cases e
      | some js =>
        rw [q] at e
        cases e
        cases h
        rw [strs_of t q]
        rfl
    | _ => cases e
theorem ints_rep2 {G : Gx} {F : Hp} {m : List Addr} (i : Int) (n : Nat) : Rps G F m ((List.range n).map fun (k : Nat) => D.int (i + (k : Int))) ((List.range n).map fun (k : Nat) => V.int (i + (k : Int))) := by
  induction List.range n with
  | nil => exact .nil
  | cons k ks ih => exact .cons (.int _) ih
theorem nokey {G : Gx} {z : List Addr} {W : Wd} {o : D} {ds : List D} {vo : V} {P : D → Wd → Prop} {Ex : Nat → List D → Wd → Prop} (h : Wp G z W (dgetK o (.tup ds)) P Ex) (k : Mok G z W) (r : RpW G z W o vo) : False := h.bad
theorem snd {G : Gx} {C : Nat → List D → M D} {Kc : Nat → D} (e : Ez) : Snd G C Kc e := by
  induction e with
  | non =>
    refine Snd.ofE rfl rfl fun {Γ X Wx} g x hx => ?_
    split at hx
    · exact impPE pe_non fun σ H Q ⟨z, ρ, W, e, k, r, h⟩ => by subst e; exact h.pure0 k _ .non
    · cases hx
  | bl b =>
    refine Snd.ofE rfl rfl fun {Γ X Wx} g x hx => ?_
    split at hx
    · rw [← beq_iff_eq.mp hx]
      exact impPE pe_bl fun σ H Q ⟨z, ρ, W, e, k, r, h⟩ => by subst e; exact h.pure0 k _ (.bl _)
    · cases hx
  | int i =>
    refine Snd.ofE rfl rfl fun {Γ X Wx} g x hx => ?_
    split at hx
    · rw [← of_decide_eq_true hx]
      exact impPE pe_int fun σ H Q ⟨z, ρ, W, e, k, r, h⟩ => by subst e; exact h.pure0 k _ (.int _)
    · cases hx
  | str s =>
    refine Snd.ofE rfl rfl fun {Γ X Wx} g x hx => ?_
    split at hx
    · rw [← of_decide_eq_true hx]
      exact impPE pe_str fun σ H Q ⟨z, ρ, W, e, k, r, h⟩ => by subst e; exact h.pure0 k _ (.str _)
    · cases hx
  | var i =>
    refine Snd.ofE rfl rfl fun {Γ X Wx} g x hx => ?_
    split at hx
    · obtain ⟨hx, h3⟩ := and4 hx
      obtain ⟨h1, h2⟩ := and4 hx
      refine impPE (pe_var (i := i) (by rw [g.N]; exact of_decide_eq_true h1) (vis_of g.sc h2) (nm_of h3).1 (nm_of h3).2) ?_
      rintro σ H Q ⟨z, ρ, W, rfl, k, r, h⟩
      obtain ⟨d, v, e1, e2, h⟩ := get_ok k r h.bind
      obtain ⟨d', e3, h⟩ := res_ok k e2 h
      exact ⟨v, e1, h v e3⟩
    · cases hx
  | frz i =>
    refine Snd.ofE rfl rfl fun {Γ X Wx} g x hx => ?_
    split at hx
    · obtain ⟨hx, h3⟩ := and4 hx
      obtain ⟨h1, h2⟩ := and4 hx
      refine impPE (pe_var (i := i) (by rw [g.N]; exact of_decide_eq_true h1) (vis_of g.sc h2) (nm_of h3).1 (nm_of h3).2) ?_
      rintro σ H Q ⟨z, ρ, W, rfl, k, r, h⟩
      obtain ⟨d, v, e1, e2, h⟩ := get_ok k r h.bind
      obtain ⟨d', W', e0, k', l', e3, h⟩ := frz_ok k e2 h
      refine ⟨v, e1, ?_⟩
      rw [← e0]
      exact h v e3
    · cases hx
  | gfn kk =>
    refine Snd.ofE rfl rfl fun {Γ X Wx} g x hx => ?_
    split at hx
    · obtain ⟨hx, h3⟩ := and4 hx
      obtain ⟨h1, h2⟩ := and4 hx
      split at h1
      · rename_i y p zz n e1
        cases of_decide_eq_true h1
        exact impPE (pe_glob (v := .ref (G.fa kk)) (gl_of g.sc h2) (g.fns _ _ _ e1).1 rfl (nm_of h3).1) fun σ H Q ⟨z, ρ, W, e, k, r, h⟩ => by subst e; exact h.pure0 k _ (.fn _ (g.nf _ _ _ e1))
      · cases h1
    · cases hx
  | gcon kk =>
    refine Snd.ofE rfl rfl fun {Γ X Wx} g x hx => ?_
    split at hx
    · obtain ⟨hx, h3⟩ := and4 hx
      obtain ⟨h1, h2⟩ := and4 hx
      obtain ⟨v, u, e1, e2, e3⟩ := g.con _ _ (of_decide_eq_true h1)
      exact impPE (pe_glob (v := v) (gl_of g.sc h2) e1 e2 (nm_of h3).1) fun σ H Q ⟨z, ρ, W, e, k, r, h⟩ => by subst e; exact h.pure0 k _ (e3 _ _)
    · cases hx
  | gty n =>
    refine Snd.ofE rfl rfl fun {Γ X Wx} g x hx => ?_
    split at hx
    · obtain ⟨hx, h3⟩ := and4 hx
      obtain ⟨h1, h2⟩ := and4 hx
      obtain ⟨b1, b2, b3, b4⟩ := boot_type h1
      cases of_decide_eq_true h2
      exact impPE (pe_bltn (v := .ty n) (gl_of g.sc h3) (g.bi _ b4) b1 rfl b2 b3) fun σ H Q ⟨z, ρ, W, e, k, r, h⟩ => by subst e; exact h.pure0 k _ (.ty _)
    · cases hx
  | bin o a b iha ihb =>
    have key : ∀ {Γ X Wx}, Good G C Kc Γ X Wx → ∀ x, (match x with
      | .BinOp l op r _ => decide (op = o.op) && (ck a).e Γ l && (ck b).e Γ r
      | _ => false) = true → PE X x (tD G Wx fun ρ => ((ev C Kc a).e ρ).bind fun x => ((ev C Kc b).e ρ).bind fun y => binop o x y) := by
      intro Γ X Wx g x hx
      split at hx
      · obtain ⟨hx, h3⟩ := and4 hx
        obtain ⟨h1, h2⟩ := and4 hx
        cases of_decide_eq_true h1
        obtain ⟨r, h4, h5⟩ := bin_ok (G := G) g.K o
        exact impPE (pe_op h4 (iha.E g _ h2) (ihb.E g _ h3)) fun σ H Q h => bin2 h fun z ρ W d1 d2 v1 v2 k _ r1 r2 h => h5 z W d1 d2 v1 v2 Q _ k r1 r2 h
      · cases hx
    refine Snd.ofEL rfl rfl key fun {Γ X Wx} g x hx => ?_
    obtain ⟨h0, hx⟩ := and4 hx
    dsimp only at hx
    split at hx
    · obtain ⟨hx, h3⟩ := and4 hx
      obtain ⟨h1, h2⟩ := and4 hx
      cases of_decide_eq_true h1
      have h0 : o = .add ∨ o = .mul := by simpa only [Bool.or_eq_true, decide_eq_true_eq] using h0
      obtain ⟨r, h4, h5⟩ := binL_ok (G := G) g.K o h0
      exact impPE (pe_op h4 (iha.E g _ h2) (ihb.E g _ h3)) fun σ H Q h => bin2 h fun z ρ W d1 d2 v1 v2 k _ r1 r2 h => h5 z W d1 d2 v1 v2 Q _ k r1 r2 h
    · cases hx
  | neg a iha =>
    refine Snd.ofE rfl rfl fun {Γ X Wx} g x hx => ?_
    split at hx
    · refine impPE (pe_un un_neg (iha.E g _ hx)) fun σ H Q h => un1 h fun z ρ W d v k r rv h => ?_
      cases d with
      | int i =>
        cases rv
        exact ⟨i, rfl, h.pure0 k _ (.int _)⟩
      | _ => exact (show False from h).elim
    · cases hx
  | cmp c a b iha ihb =>
    refine Snd.ofET rfl rfl (fun {Γ X Wx} g x hx => ?_) fun {Γ X Wx} g x hx => ?_
    · split at hx
      · obtain ⟨hx, h4⟩ := and4 hx
        obtain ⟨hx, h3⟩ := and4 hx
        obtain ⟨h1, h2⟩ := and4 hx
        cases of_decide_eq_true h1
        obtain ⟨r, h5, h6⟩ := cmp_ok (G := G) g.K g.room c
        exact impPE (pe_cmpR h5 (iha.E g _ h3) (ihb.E g _ h4) (mark_of h2)) fun σ H Q h => bin2 h fun z ρ W d1 d2 v1 v2 k _ r1 r2 h => h6 z W d1 d2 v1 v2 Q _ k r1 r2 h
      · cases hx
    · split at hx
      · obtain ⟨hx, h4⟩ := and4 hx
        obtain ⟨hx, h3⟩ := and4 hx
        obtain ⟨h1, h2⟩ := and4 hx
        cases of_decide_eq_true h1
        obtain ⟨r, h5, h6⟩ := cmp_ok (G := G) g.K g.room c
        refine impPT (pt_cmpR h5 (iha.E g _ h3) (ihb.E g _ h4) (mark_of h2)) fun σ H Q h => ?_
        refine bin2 (Run.bind h) fun z ρ W d1 d2 v1 v2 k _ r1 r2 h => h6 z W d1 d2 v1 v2 _ _ k r1 r2 ((cmp_k h).mono (fun d W' k' l' h v rv => ?_) fun _ _ _ _ _ q => q)
        obtain ⟨⟨b, rfl⟩, h⟩ := h
        cases rv
        exact ⟨b, rfl, (show Wp G z W' (M.pure b) _ _ from h).pure0 k'⟩
      · cases hx
  | chain c c' a b d iha ihb ihd =>
    have two : ∀ {Γ X Wx} (g : Good G C Kc Γ X Wx) (r r' : R2) (l m n : Expr) (pos : Pos), (ck a).e Γ l = true → (ck b).e Γ m = true → (ck d).e Γ n = true → ∀ (Q : V → Hp → Prop) (σ : L2.St) (H : Hp),
        (∀ (z : List Addr) (W : Wd) (d1 d2 : D) (v1 v2 : V) (Q : VK) (Ex : Nat → List D → Wd → Prop), Mok G z W → RpW G z W d1 v1 → RpW G z W d2 v2 → Wp G z W (cmpop c d1 d2) (Wt G z Q) Ex → r v1 v2 W.H Q) →
        (∀ (z : List Addr) (W : Wd) (d1 d2 : D) (v1 v2 : V) (Q : VK) (Ex : Nat → List D → Wd → Prop), Mok G z W → RpW G z W d1 v1 → RpW G z W d2 v2 → Wp G z W (cmpop c' d1 d2) (Wt G z Q) Ex → r' v1 v2 W.H Q) →
        Run G Wx (fun ρ => ((ev C Kc a).e ρ).bind fun x => ((ev C Kc b).e ρ).bind fun y => (cmpop c x y).bind (chainop c' y ((ev C Kc d).e ρ))) σ H (fun z d W => (∃ k, d = D.bl k) → ∀ v, RpW G z W d v → Q v W.H) →
        tChain r r' (tD G Wx (ev C Kc a).e) (tD G Wx (ev C Kc b).e) (tD G Wx (ev C Kc d).e) σ H Q := by
      intro Γ X Wx g r r' l m n pos ha hb hd Q σ H hr hr' h
      refine bin2 h fun z ρ W d1 d2 v1 v2 k env r1 r2 h => hr z W d1 d2 v1 v2 _ _ k r1 r2 ((cmp_k h.bind).mono (fun q W1 k1 l1 h1 v rv => ?_) fun _ _ _ _ _ q => q)
      obtain ⟨⟨t, rfl⟩, h1⟩ := h1
      cases rv
      refine ⟨t, rfl, ?_⟩
      cases t with
      | true =>
        rw [if_pos rfl]
        have h1 : Wp G z W1 (((ev C Kc d).e ρ).bind fun z => cmpop c' d2 z) _ _ := h1
        exact ⟨z, ρ, W1, rfl, k1, env.le l1, h1.bind.mono (fun d3 W2 k2 l2 h2 v3 r3 => hr' z W2 d2 d3 v2 v3 _ _ k2 ((r2.le l1).le l2) r3 ((cmp_k h2).mono (fun q W3 k3 l3 h3 v rv => h3.2 h3.1 v rv) fun _ _ _ _ _ q => q)) fun _ _ _ _ _ q => q⟩
      | false =>
        rw [if_neg Bool.false_ne_true]
        have h1 : Wp G z W1 (M.pure (D.bl false)) _ _ := h1
        exact h1.pure0 k1 ⟨_, rfl⟩ _ (.bl _)
    refine Snd.ofET rfl rfl (fun {Γ X Wx} g x hx => ?_) fun {Γ X Wx} g x hx => ?_
    · split at hx
      · obtain ⟨hx, h7⟩ := and4 hx
        obtain ⟨hx, h6⟩ := and4 hx
        obtain ⟨hx, h5⟩ := and4 hx
        obtain ⟨hx, h4⟩ := and4 hx
        obtain ⟨hx, h3⟩ := and4 hx
        obtain ⟨h1, h2⟩ := and4 hx
        cases of_decide_eq_true h1
        cases of_decide_eq_true h2
        obtain ⟨r, q1, q2⟩ := cmp_ok (G := G) g.K g.room c
        obtain ⟨r', q3, q4⟩ := cmp_ok (G := G) g.K g.room c'
        refine impPE (pe_chain q1 q3 (iha.E g _ h5) (ihb.E g _ h6) (ihd.E g _ h7) (show behindInMarks _ _ = false from mark_of h3)) fun σ H Q h => two g r r' _ _ _ ⟨0, 0, 0, 0⟩ h5 h6 h7 Q σ H q2 q4 ?_
        obtain ⟨z, ρ, W, e, k, rr, h⟩ := h
        exact ⟨z, ρ, W, e, k, rr, h.mono (fun d W' k' l' q _ => q) fun _ _ _ _ _ q => q⟩
      · cases hx
    · split at hx
      · obtain ⟨hx, h7⟩ := and4 hx
        obtain ⟨hx, h6⟩ := and4 hx
        obtain ⟨hx, h5⟩ := and4 hx
        obtain ⟨hx, h4⟩ := and4 hx
        obtain ⟨hx, h3⟩ := and4 hx
        obtain ⟨h1, h2⟩ := and4 hx
        cases of_decide_eq_true h1
        cases of_decide_eq_true h2
        obtain ⟨r, q1, q2⟩ := cmp_ok (G := G) g.K g.room c
        obtain ⟨r', q3, q4⟩ := cmp_ok (G := G) g.K g.room c'
        refine impPT (pt_chain q1 q3 (iha.E g _ h5) (ihb.E g _ h6) (ihd.E g _ h7) (show behindInMarks _ _ = false from mark_of h3)) fun σ H Q h => two g r r' _ _ _ ⟨0, 0, 0, 0⟩ h5 h6 h7 _ σ H q2 q4 ?_
        obtain ⟨z, ρ, W, e, k, rr, h⟩ := Run.bind h
        refine ⟨z, ρ, W, e, k, rr, h.mono (fun d W' k' l' q hb v rv => ?_) fun _ _ _ _ _ q => q⟩
        obtain ⟨b, rfl⟩ := hb
        cases rv
        exact ⟨b, rfl, (show Wp G z W' (M.pure b) _ _ from q).pure0 k'⟩
      · cases hx
  | bool o es ih =>
    refine Snd.ofET rfl rfl (fun {Γ X Wx} g x hx => ?_) fun {Γ X Wx} g x hx => ?_
    · split at hx
      · obtain ⟨h1, h2⟩ := and4 hx
        cases of_decide_eq_true h1
        exact ih.B g _ _ _ h2
      · cases hx
    · split at hx
      · obtain ⟨h1, h2⟩ := and4 hx
        cases of_decide_eq_true h1
        exact (ih.BT g _ _ _ h2).pt
      · cases hx
  | not a iha =>
    refine Snd.ofET rfl rfl (fun {Γ X Wx} g x hx => ?_) fun {Γ X Wx} g x hx => ?_
    · split at hx
      · refine impPE (pe_notT (iha.E g _ hx)) fun σ H Q h => un1 h fun z ρ W d v k r rv h => ?_
        obtain ⟨b, h1, h2⟩ := truth_ok k rv h.bind
        rw [g.K]
        exact ⟨b, h1, h2.pure0 k _ (.bl _)⟩
      · cases hx
    · split at hx
      · refine impPT (pt_not (iha.T g _ hx)) fun σ H Q h => ?_
        obtain ⟨z, ρ, W, e, k, rr, h⟩ := Run.bind h
        exact ⟨z, ρ, W, e, k, rr, h.mono (fun d W' k' l' q => q.pure0 k') fun _ _ _ _ _ q => q⟩
      · cases hx
  | ife c a b ihc iha ihb =>
    refine Snd.ofE rfl rfl fun {Γ X Wx} g x hx => ?_
    split at hx
    · obtain ⟨hx, h3⟩ := and4 hx
      obtain ⟨h1, h2⟩ := and4 hx
      refine impPE (pe_ifExp (ihc.T g _ h1) (iha.E g _ h2) (ihb.E g _ h3)) fun σ H Q h => ?_
      obtain ⟨z, ρ, W, e, k, rr, h⟩ := h
      refine ⟨z, ρ, W, e, k, rr, h.bind.mono (fun t W' k' l' q => ?_) fun _ _ _ _ _ q => q⟩
      cases t with
      | true =>
        rw [if_pos rfl]
        rw [if_pos rfl] at q
        exact ⟨z, ρ, W', rfl, k', rr.le l', q⟩
      | false =>
        rw [if_neg Bool.false_ne_true]
        rw [if_neg Bool.false_ne_true] at q
        exact ⟨z, ρ, W', rfl, k', rr.le l', q⟩
    · cases hx
  | tup es ih =>
    refine Snd.ofE rfl rfl fun {Γ X Wx} g x hx => ?_
    split at hx
    · refine impPE (pe_tup (ih.Es g _ hx)) fun σ H Q h => ?_
      obtain ⟨z, ρ, W, e, k, rr, h⟩ := h
      refine ⟨z, ρ, W, e, k, rr, h.bind.mono (fun ds W' k' l' q vs rv => ?_) fun _ _ _ _ _ q => q⟩
      have q := q.bind
      unfold lenOk at q
      rcases q.ite with ⟨q1, q⟩ | ⟨_, q⟩
      · exact ⟨by rw [← rv.len]; exact q1, new_tup k' rv (q.pure0 k')⟩
      · exact q.bad.elim
    · cases hx
  | lst es ih =>
    refine Snd.ofLL rfl rfl fun {Γ X Wx} g x hx => ?_
    split at hx
    · refine impPE (pe_lst (ih.Es g _ hx)) fun σ H Q h => ?_
      obtain ⟨z, ρ, W, e, k, rr, h⟩ := h
      refine ⟨z, ρ, W, e, k, rr, h.bind.mono (fun ds W' k' l' q vs rv => ?_) fun _ _ _ _ _ q => q⟩
      unfold lenOk at q
      rcases q.ite with ⟨q1, q⟩ | ⟨_, q⟩
      · exact ⟨by rw [← rv.len]; exact q1, fun p hp => q.pure0 k' vs rv p hp⟩
      · exact q.bad.elim
    · cases hx
  | idx a i iha ihi =>
    refine Snd.ofE rfl rfl fun {Γ X Wx} g x hx => ?_
    split at hx
    · obtain ⟨hx, h3⟩ := and4 hx
      obtain ⟨h1, h2⟩ := and4 hx
      refine impPE (pe_ix ix_seq (iha.E g _ h2) (ihi.E g _ h3) (slice_of h1)) fun σ H Q h => bin2 h fun z ρ W d1 d2 v1 v2 k _ r1 r2 h => ?_
      cases d2 with
      | int i =>
        cases r2
        obtain ⟨a, xs, vs, rfl, q1, q2, q3, q4, q5⟩ := seqA_ok k r1 (show Wp G z W ((seqA d1).bind fun xs => M.opt (L2.atI xs i)) _ _ from h).bind
        obtain ⟨d, e, q⟩ := q3.opt k
        obtain ⟨v, e2, rv⟩ := atI_of q2 e
        rw [g.K]
        rcases q1 with q1 | q1
        · exact .inl ⟨a, vs, i, v, rfl, rfl, q1, e2, q v rv⟩
        · exact .inr (.inl ⟨a, vs, i, v, rfl, rfl, q1, e2, q v rv⟩)
      | _ => exact (show False from h).elim
    · cases hx
  | slc a lo hi iha ihl ihh =>
    refine Snd.ofEL rfl rfl (fun {Γ X Wx} g x hx => ?_) fun {Γ X Wx} g x hx => ?_
    · split at hx
      · obtain ⟨hx, h3⟩ := and4 hx
        obtain ⟨h1, h2⟩ := and4 hx
        refine impPE (pe_slice (sl_tupA.or sl_list) (iha.E g _ h1) (ihl.P g _ h2) (ihh.P g _ h3)) fun σ H Q h => tri3 (op := fun x l h => slcop l h x) h fun z W' d v lo hi k' rv h => ?_
        rw [g.K]
        by_cases ht : ∃ xs, d = D.tup xs
        · obtain ⟨xs, rfl⟩ := ht
          cases rv with
          | @tup a vs ds h1 h2 =>
            refine .inl ⟨a, vs, rfl, sqT_of h1, fun e => ?_, fun _ => new_tup k' (cut_of h2) h⟩
            have e2 : cut xs lo hi = xs := by
              unfold cut
              rw [h2.len, e.1, e.2, List.drop_zero, Nat.sub_zero, ← h2.len, List.take_length]
            have h : Wp G z W' (M.pure (D.tup (cut xs lo hi))) _ _ := h
            rw [e2] at h
            exact h.pure0 k' _ (.tup h1 h2)
        · have h : Wp G z W' ((seqL d).bind fun xs => M.pure (D.lst (cut xs lo hi))) (Wt G z Q) (exW G z Wx σ) := by
            cases d with
            | tup xs => exact absurd ⟨xs, rfl⟩ ht
            | _ => exact h
          obtain ⟨a, xs, vs, rfl, q1, q2, q3⟩ := seqL_ok k' rv h.bind
          exact .inr ⟨a, vs, rfl, SqL.of q1, fun p hp => new_lst k' (cut_of q2) q3 p hp⟩
      · cases hx
    · split at hx
      · obtain ⟨hx, h3⟩ := and4 hx
        obtain ⟨h1, h2⟩ := and4 hx
        refine impPE (pe_slice (sl_tupA.or sl_list) (iha.E g _ h1) (ihl.P g _ h2) (ihh.P g _ h3)) fun σ H Q h => tri3 (op := fun x l h => (seqL x).bind fun xs => M.pure (cut xs l h)) h fun z W' d v lo hi k' rv h => ?_
        rw [g.K]
        obtain ⟨a, xs, vs, rfl, q1, q2, q3⟩ := seqL_ok k' rv h.bind
        exact .inr ⟨a, vs, rfl, SqL.of q1, fun p hp => q3.pure0 k' _ (cut_of q2) p hp⟩
      · cases hx
  | call kk es ih =>
    refine Snd.ofE rfl rfl fun {Γ X Wx} g x hx => ?_
    split at hx
    · rename_i y p xs pos
      obtain ⟨hx, h5⟩ := and4 hx
      obtain ⟨hx, h4⟩ := and4 hx
      obtain ⟨hx, h3⟩ := and4 hx
      obtain ⟨hx, h2⟩ := and4 hx
      obtain ⟨hh, h1⟩ := and4 hx
      have eh : Γ.hot = false := by simpa using hh
      split at h1
      · rename_i zz n e
        obtain ⟨a1, a2⟩ := and4 h1
        cases of_decide_eq_true a1
        obtain ⟨j, hr0, cs⟩ := g.calls eh
        obtain ⟨fd, ps, hb, F⟩ := cs _ _ _ e
        have hr : Room j X.A := hr0.mono (by split <;> omega)
        obtain ⟨m1, m2⟩ := g.fns _ _ _ e
        have fin : ∀ σ H Q, tD G Wx (fun ρ => ((ev C Kc es).es ρ).bind (C kk)) σ H Q → tA G Wx (ev C Kc es).es σ H fun vs H1 => spD G n (C kk) vs H1 Q (WE Wx σ) := by
          rintro σ H Q ⟨z, ρ, W, e0, k, rr, h⟩
          exact ⟨z, ρ, W, e0, k, rr, h.bind.mono (fun ds W1 k1 l1 h1 vs rv => ⟨z, ds, W1, rfl, by rw [← rv.len]; exact g.arity _ _ _ e _ _ _ _ _ h1, k1, rv, h1⟩) fun _ _ _ _ _ q => q⟩
        cases xs with
        | nil =>
          refine impPE (pe_callS0 F hr (gl_of g.sc h2) m1 m2 hb (fun σ => L2N.passAt g.tk σ) (nm_of h3).1) fun σ H Q h => ?_
          have e2 : (ev C Kc es).es = fun _ => M.pure [] := nil_es h5
          have h := fin σ H Q h
          rw [e2] at h
          obtain ⟨z, ρ, W, e0, k, rr, hq⟩ := h
          subst e0
          exact Wp.pure0 hq k [] .nil
        | cons e0 es0 =>
          have h6 := h4
          simp only [List.all_cons, Bool.and_eq_true] at h6
          exact impPE (pe_callS F hr (gl_of g.sc h2) m1 m2 hb (fun σ => L2N.passAt g.tk σ) (ih.Es g _ h5) (nm_of h3).1 (star_of h6.1) (stars_false h6.2)) fin
      · cases h1
    · cases hx
  | mkl a iha =>
    exact Snd.ofE rfl rfl fun {Γ X Wx} g x hx => impPE (iha.L g x hx) fun σ H Q h => tL_of_mkl h
  | bf f es ih =>
    refine Snd.ofEL rfl rfl (fun {Γ X Wx} g x hx => ?_) fun {Γ X Wx} g x hx => ?_
    · unfold ckBf at hx
      split at hx
      · rename_i y p xs pos
        obtain ⟨hx, h5⟩ := and4 hx
        obtain ⟨hx, h4⟩ := and4 hx
        obtain ⟨hx, h3⟩ := and4 hx
        obtain ⟨hx, h2⟩ := and4 hx
        obtain ⟨h0, h1⟩ := and4 hx
        cases of_decide_eq_true h0
        cases xs with
        | nil =>
          have q := of_decide_eq_true h1
          cases f <;> cases q
        | cons e0 es0 =>
          simp only [List.all_cons, Bool.and_eq_true] at h3
          obtain ⟨r, q1, q2⟩ := bf_ok g f h4 (p := p) (pos := pos) (gl_of g.sc h2) (ih.Es g _ h5) (star_of h3.1) (stars_false h3.2)
          refine impPE q1 fun σ H Q h => ?_
          obtain ⟨z, ρ, W, e0, k, rr, h⟩ := h
          exact ⟨z, ρ, W, e0, k, rr, h.bind.mono (fun ds W1 k1 l1 h1 vs rv => q2 z W1 ds vs Q _ k1 rv h1) fun _ _ _ _ _ q => q⟩
      · cases hx
    · obtain ⟨hf, hx⟩ := and4 hx
      cases of_decide_eq_true hf
      unfold ckBf at hx
      split at hx
      · rename_i y p xs pos h0
        obtain ⟨hx, h5⟩ := and4 hx
        obtain ⟨hx, h4⟩ := and4 hx
        obtain ⟨hx, h3⟩ := and4 hx
        obtain ⟨hx, h2⟩ := and4 hx
        obtain ⟨h0, h1⟩ := and4 hx
        cases of_decide_eq_true h0
        cases xs with
        | nil => cases of_decide_eq_true h1
        | cons e0 es0 =>
          simp only [List.all_cons, Bool.and_eq_true] at h3
          obtain ⟨r, q1, q2⟩ := bfLs_ok g (p := p) (pos := pos) (gl_of g.sc h2) (ih.Es g _ h5) (star_of h3.1) (stars_false h3.2)
          refine impPE q1 fun σ H Q h => ?_
          obtain ⟨z, ρ, W, e0, k, rr, h⟩ := h
          exact ⟨z, ρ, W, e0, k, rr, h.bind.mono (fun ds W1 k1 l1 h1 vs rv => q2 z W1 ds vs Q _ k1 rv h1) fun _ _ _ _ _ q => q⟩
      · cases hx
  | lc tg it cond elt ih1 ih2 ih3 =>
    refine Snd.ofLL rfl rfl fun {Γ X Wx} g x hx => ?_
    cases eh : Γ.hot with
    | false =>
      refine lc_with g ih1 ih2 ih3 hx (fun st H s Cc cl fp => X.blk st H s (compEnvC s cl Cc X.env) fp) (fun st H s Cc cl fp => g.blk eh st H s Cc cl fp) fun y tgx itx ifs s pos own e eo p1 p2 p3 p4 p5 p6 => ?_
      subst e
      have P := pe_lc (X := X) (pos := pos) (g.calm eh) (by rw [g.N]; exact g.nd) (p1.1 eh) p2 p3 p4 p5 p6
      rw [eo] at P
      exact impPE P fun σ H Q h => lc_ok h
    | true =>
      refine lc_with g ih1 ih2 ih3 hx (fun st H s Cc cl fp => L2H.blkH X st H s (compEnvC s cl Cc X.env) fp) (fun st H s Cc cl fp => g.blkH st H s Cc cl fp) fun y tgx itx ifs s pos own e eo p1 p2 p3 p4 p5 p6 => ?_
      subst e
      have P := L2H.pe_lcH (X := X) (pos := pos) (g.hotc eh) (by rw [g.N]; exact g.nd) (p1.2 eh) p2 (fun st H cl Cc fp => p3 st H cl Cc fp) (fun st H cl Cc fp => p4 st H cl Cc fp) (fun st H cl Cc fp => p5 st H cl Cc fp) p6
      rw [eo] at P
      exact impPE P fun σ H Q h => lc_ok h
  | range1 a iha =>
    refine Snd.ofI rfl rfl fun {Γ X Wx} g tg x hx => ?_
    split at hx
    · obtain ⟨hx, h4⟩ := and4 hx
      obtain ⟨hx, h3⟩ := and4 hx
      obtain ⟨hx, h2⟩ := and4 hx
      obtain ⟨hh, h1⟩ := and4 hx
      have eh : Γ.hot = false := by simpa using hh
      cases of_decide_eq_true h1
      refine ⟨fun _ => ?_, (fun e => by rw [eh] at e; cases e)⟩
      refine impPI (pi_range1 (gl_of g.sc h2) (g.bi _ (by decide)) (pa_cons (iha.E g _ h4) pa_nil (star_of h3)) (star_of h3)) fun σ H Q h => un1 h fun z ρ W d v k r rv h => ?_
      cases d with
      | int n =>
        cases rv
        rcases (show Wp G z W (if -lim ≤ n ∧ n < lim then M.pure ((List.range n.toNat).map fun (i : Nat) => D.int (i : Int)) else M.bad) _ _ from h).ite with ⟨q, h⟩ | ⟨q, h⟩
        · refine ⟨n, rfl, q.1, q.2, h.pure0 k _ ?_⟩
          have e : (fun (i : Nat) => D.int (0 + (i : Int))) = fun (i : Nat) => D.int (i : Int) := by
            funext i
            rw [Int.zero_add]
          have w := it_rng (G := G) (F := W.F z) (m := W.m) (lo := 0) (n := n.toNat)
          rw [e] at w
          exact w
        · exact h.bad.elim
      | _ => exact (show False from h).elim
    · cases hx
  | range2 a b iha ihb =>
    refine Snd.ofI rfl rfl fun {Γ X Wx} g tg x hx => ?_
    split at hx
    · obtain ⟨hx, h6⟩ := and4 hx
      obtain ⟨hx, h5⟩ := and4 hx
      obtain ⟨hx, h4⟩ := and4 hx
      obtain ⟨hx, h3⟩ := and4 hx
      obtain ⟨hx, h2⟩ := and4 hx
      obtain ⟨hh, h1⟩ := and4 hx
      have eh : Γ.hot = false := by simpa using hh
      cases of_decide_eq_true h1
      refine ⟨fun _ => ?_, (fun e => by rw [eh] at e; cases e)⟩
      refine impPI (pi_range2 (gl_of g.sc h2) (g.bi _ (by decide)) (pa_cons (iha.E g _ h5) (pa_cons (ihb.E g _ h6) pa_nil (star_of h4)) (star_of h3)) (by rw [star_of h3, star_of h4]; rfl) (star_of h4)) fun σ H Q h => bin2 h fun z ρ W d1 d2 v1 v2 k _ r1 r2 h => ?_
      have q : ∃ i j, d1 = .int i ∧ d2 = .int j := by
        cases d1 <;> first
          | exact (show False from h).elim
          | (cases d2 <;> first | exact ⟨_, _, rfl, rfl⟩ | exact (show False from h).elim)
      obtain ⟨i, j, rfl, rfl⟩ := q
      cases r1
      cases r2
      rcases (show Wp G z W (if (-lim ≤ i ∧ i < lim) ∧ (-lim ≤ j ∧ j < lim) then M.pure ((List.range (j - i).toNat).map fun (k : Nat) => D.int (i + (k : Int))) else M.bad) _ _ from h).ite with ⟨q, h⟩ | ⟨q, h⟩
      · exact ⟨i, j, rfl, ⟨q.1.1, q.1.2, q.2.1, q.2.2⟩, h.pure0 k _ it_rng⟩
      · exact h.bad.elim
    · cases hx
  | enum a iha =>
    refine Snd.ofI rfl rfl fun {Γ X Wx} g tg x hx => ?_
    split at hx
    · obtain ⟨hx, h4⟩ := and4 hx
      obtain ⟨hx, h3⟩ := and4 hx
      obtain ⟨hx, h2⟩ := and4 hx
      obtain ⟨hx, h1⟩ := and4 hx
      obtain ⟨hh, h0⟩ := and4 hx
      have eh : Γ.hot = false := by simpa using hh
      cases of_decide_eq_true h1
      cases tg with
      | Tuple es kk tp =>
        refine ⟨fun _ => ?_, (fun e => by rw [eh] at e; cases e)⟩
        refine impPI (L2H.pi_enumA (gl_of g.sc h2) (g.bi _ (by decide)) (pa_cons (iha.E g _ h4) pa_nil (star_of h3)) (star_of h3)) fun σ H Q h => un1 h fun z ρ W d v k r rv h => ?_
        cases d with
        | lst xs =>
          cases rv with
          | @lst a vs ds h1 h2 =>
            rw [g.K]
            exact ⟨a, rfl, .inl ⟨⟨vs, SqL.of (F_sub h1)⟩, h.pure0 k _ (it_enum h1 h2)⟩⟩
        | tup xs =>
          cases rv with
          | @tup a vs ds h1 h2 =>
            rw [g.K]
            exact ⟨a, rfl, .inr ⟨⟨vs, sqT_of h1⟩, h.pure0 k _ (it_enumT h1 h2)⟩⟩
        | _ => exact (show False from h).elim
      | _ => cases h0
    · cases hx
  | zip a b iha ihb =>
    refine Snd.ofI rfl rfl fun {Γ X Wx} g tg x hx => ?_
    split at hx
    · obtain ⟨hx, h6⟩ := and4 hx
      obtain ⟨hx, h5⟩ := and4 hx
      obtain ⟨hx, h4⟩ := and4 hx
      obtain ⟨hx, h3⟩ := and4 hx
      obtain ⟨hx, h2⟩ := and4 hx
      obtain ⟨hx, h1⟩ := and4 hx
      obtain ⟨hh, h0⟩ := and4 hx
      have eh : Γ.hot = false := by simpa using hh
      cases of_decide_eq_true h1
      cases tg with
      | Tuple es kk tp =>
        refine ⟨fun _ => ?_, (fun e => by rw [eh] at e; cases e)⟩
        refine impPI (RZ.pi_zipA (gl_of g.sc h2) (g.bi _ (by decide)) (pa_cons (iha.E g _ h5) (pa_cons (ihb.E g _ h6) pa_nil (star_of h4)) (star_of h3)) (star_of h3) (by rw [star_of h4]; rfl)) fun σ H Q h => bin2 h fun z ρ W d1 d2 v1 v2 k _ r1 r2 h => ?_
        rw [g.K]
        cases d1 with
        | lst xs =>
          cases d2 with
          | lst ys =>
            cases r1 with
            | @lst a vs ds h1 h2 =>
              cases r2 with
              | @lst b us es h3 h4 => exact ⟨a, b, vs, us, rfl, .inl ⟨SqL.of (F_sub h1), SqL.of (F_sub h3), h.pure0 k _ (it_zipL h1 h3 h2 h4)⟩⟩
          | _ => exact (show False from h).elim
        | tup xs =>
          cases d2 with
          | tup ys =>
            cases r1 with
            | @tup a vs ds h1 h2 =>
              cases r2 with
              | @tup b us es h3 h4 => exact ⟨a, b, vs, us, rfl, .inr ⟨sqT_of h1, sqT_of h3, h.pure0 k _ (it_zipT h1 h3 h2 h4)⟩⟩
          | _ => exact (show False from h).elim
        | _ => exact (show False from h).elim
      | _ => cases h0
    · cases hx
  | zipL a b iha ihb =>
    refine Snd.ofI rfl rfl fun {Γ X Wx} g tg x hx => ?_
    split at hx
    · obtain ⟨hx, h6⟩ := and4 hx
      obtain ⟨hx, h5⟩ := and4 hx
      obtain ⟨hx, h4⟩ := and4 hx
      obtain ⟨hx, h3⟩ := and4 hx
      obtain ⟨hx, h2⟩ := and4 hx
      obtain ⟨hx, h1⟩ := and4 hx
      obtain ⟨eh, h0⟩ := and4 hx
      cases of_decide_eq_true h1
      cases tg with
      | Tuple es kk tp =>
        refine ⟨(fun e => by rw [eh] at e; cases e), fun _ => ?_⟩
        refine impPIH (L2H.pi_zipH (gl_of g.sc h2) (g.bi _ (by decide)) (pa_cons (iha.E g _ h5) (pa_cons (ihb.E g _ h6) pa_nil (star_of h4)) (star_of h3)) (star_of h3) (by rw [star_of h4]; rfl)) fun σ H Q h => bin2 h fun z ρ W d1 d2 v1 v2 k _ r1 r2 h => ?_
        rw [g.K]
        cases d1 with
        | lst xs =>
          cases d2 with
          | lst ys =>
            cases r1 with
            | @lst a vs ds h1 h2 =>
              cases r2 with
              | @lst b us es h3 h4 => exact ⟨a, b, vs, us, rfl, SqL.of (F_sub h1), SqL.of (F_sub h3), h.pure0 k _ (it_zipL h1 h3 h2 h4)⟩
          | _ => exact (show False from h).elim
        | _ => exact (show False from h).elim
      | _ => cases h0
    · cases hx
  | bad => exact Snd.ofE rfl rfl fun {Γ X Wx} g x hx => ⟨fun pins s σ H Q I ⟨z, ρ, W, e, k, r, h⟩ => h.bad.elim⟩
  | isx a q iha =>
    refine Snd.ofE rfl rfl fun {Γ X Wx} g x hx => ?_
    split at hx
    · rename_i y p e c p2 pos
      obtain ⟨hx, h9⟩ := and4 hx
      obtain ⟨hx, h8⟩ := and4 hx
      obtain ⟨hx, h7⟩ := and4 hx
      obtain ⟨hx, h6⟩ := and4 hx
      obtain ⟨hx, h5⟩ := and4 hx
      obtain ⟨hx, h4⟩ := and4 hx
      obtain ⟨hx, h3⟩ := and4 hx
      obtain ⟨h1, h2⟩ := and4 hx
      cases of_decide_eq_true h1
      obtain ⟨c0, f, e1, e2⟩ : ∃ c0 f, Γ.exs[q]? = some (c0, f) ∧ c0 = c := by
        split at h7
        · rename_i c0 f e1
          exact ⟨c0, f, e1, of_decide_eq_true h7⟩
        · cases h7
      subst e2
      obtain ⟨ax, Dc, cc, x1, x2, x3, x4⟩ := g.hx h2 (Option.isNone_iff_eq_none.mp h3)
      have pc : PE X (.Name c0 p2) (tC (.ref (G.ca q))) := pe_glob (gl_of g.sc h8) (g.exk _ _ _ e1) rfl (nm_of h9).1
      refine impPE (pe_callB x3 (gl_of g.sc h4) (g.bi _ (by decide)) boot_isinstance (pa_cons (iha.E g _ h6) (pa_cons pc pa_nil (star_of rfl)) (star_of h5)) (by decide) (by decide) (star_of h5) (by rw [star_of rfl]; rfl)) fun σ H Q h => un1 h fun z ρ W d v k r rv h => ?_
      cases d with
      | exn =>
        cases rv with
        | exn hxa =>
          rw [x1] at hxa
          cases hxa
          have h : Wp G z W (isxop Kc q .exn) _ _ := h
          unfold isxop at h
          simp only [x2] at h
          refine ⟨.ref (G.ca q), .ref (G.ca q), (cc == q), rfl, fun u ru => ru, x4 _ _ _ e1, ?_⟩
          have eb : ((cc : Int) == (q : Int)) = (cc == q) := by
            by_cases z : cc = q
            · subst z; simp
            · have z2 : (cc : Int) ≠ q := fun y => z (by omega)
              rw [beq_eq_false_iff_ne.mpr z, beq_eq_false_iff_ne.mpr z2]
          rw [eb] at h
          exact h.pure0 k _ (.bl _)
      | _ => exact (show False from h).elim
    · cases hx
  | join s b ihb =>
    refine Snd.ofE rfl rfl fun {Γ X Wx} g x hx => ?_
    split at hx
    · rename_i s1 j1 p1 m apos e pos
      obtain ⟨hx, h5⟩ := and4 hx
      obtain ⟨hx, h4⟩ := and4 hx
      obtain ⟨hx, h3⟩ := and4 hx
      obtain ⟨h1, h2⟩ := and4 hx
      cases of_decide_eq_true h1
      cases of_decide_eq_true h4
      refine impPE (pe_join pe_str (ihb.E g _ h5) (star_of h3) (by rfl) h2) fun σ H Q h => ⟨⟨s, rfl⟩, un1 h fun z ρ W d v k r rv h => ?_⟩
      have h : Wp G z W ((seqA d).bind fun xs => (M.opt (strsOf xs)).bind fun ys => if (ys.map (·.length)).sum + ys.length * s.length ≤ 16777216 then M.pure (D.str (Txt.join s ys)) else M.bad) _ _ := h
      obtain ⟨a, xs, us, rfl, q1, q2, q3, _⟩ := seqA_ok k rv h.bind
      obtain ⟨ys, e1, h4⟩ := q3.bind.opt k
      rcases h4.ite with ⟨hs, h4⟩ | ⟨_, h4⟩
      · rw [g.K]
        refine ⟨s, a, ys, rfl, rfl, ?_, hs, h4.pure0 k _ (.str _)⟩
        rw [← strs_of q2 e1]
        exact q1
      · exact h4.bad.elim
    · cases hx
  | err kk a iha =>
    refine Snd.ofE rfl rfl fun {Γ X Wx} g x hx => ?_
    split at hx
    · rename_i y p ps b s lpos pos
      obtain ⟨hx, h8⟩ := and4 hx
      obtain ⟨hx, h7⟩ := and4 hx
      obtain ⟨hx, h6⟩ := and4 hx
      obtain ⟨hx, h5⟩ := and4 hx
      obtain ⟨hx, h4⟩ := and4 hx
      obtain ⟨hx, h3⟩ := and4 hx
      obtain ⟨h1, h2⟩ := and4 hx
      have eh : Γ.hot = false := by simpa using h1
      obtain ⟨cd, P, c1, c2, c3, c4⟩ := g.lamc h2
      obtain ⟨j, hr0, cs⟩ := g.calls eh
      rw [if_pos h2] at hr0
      have L : LamX.LamS X.env.scope s := LamX.lamS_by (by rw [g.sc]; exact h7)
      obtain ⟨an, ga, pg, bg, sg, dV, kV, doc, pm, cdv, ct, oc, aa, od, osl, Ng, TT, g1, g2, g3, g4, g5, g6, g7, g8, g9, g10, g11⟩ := (g.errs kk y (of_decide_eq_true h3)).ex
      cases noPars_ok h6
      have hdf : defaultsOf ⟨[], [], none, [], [], none, []⟩ X.env = ([], []) := by simp [defaultsOf, evalEach, evalEachOpt]
      refine impPE (LX.pe_lamcallN (t := fun E => tD G (fun cls d _ H' => E cls d H') (ev C Kc a).e) (gl_of g.sc h4) g1 g2 g3 g4 g5 g6 g7 g8 (g10 X (j + 1) _ rfl rfl rfl rfl rfl) c2 c1 c3 c4 hr0 L hdf (fun q cl pm cv ctv => rfl)
        (fun A outer st H E f c' hr => iha.E (g.lamN eh cs L A outer st H E f c' hr) b h8) (nm_of h5).1 (nm_of g9).1 (nm_of g9).2) fun σ H Q h => ?_
      obtain ⟨z, ρ, W, rfl, k, r, h⟩ := h
      refine ⟨k.tabs, fun H1 eN T1 => ?_⟩
      have e1 : Ext (W.F z) (Wd.F z ⟨W.m, W.μ, H1⟩) := fun b u e n => by
        obtain ⟨q1, q2, q3⟩ := Wd.F_some e
        exact Wd.F_of (eN _ _ q1 n) q2 q3
      have l1 : Le z W ⟨W.m, W.μ, H1⟩ := ⟨fun _ _ q => q, e1, fun b hb => by
        obtain ⟨vs, q⟩ := k.zs b hb
        show H1 b = W.H b
        rw [q]
        exact eN _ _ q fun _ y => nomatch y⟩
      have k1 : Mok G z ⟨W.m, W.μ, H1⟩ := ⟨k.len, k.inj, k.zl, fun b hb => by
        obtain ⟨vs, q⟩ := k.zs b hb
        exact ⟨vs, eN _ _ q fun _ y => nomatch y⟩, T1, fun i a o q1 q2 => (k.ob i a o q1 q2).mono e1 (fun _ _ q => q) fun hf u e => by
        refine eN _ _ e fun ps y => ?_
        have ll : live W.μ i := by
          unfold live
          rw [show W.μ[i]? = some o from q2]
          cases o with
          | fro d => exact absurd rfl (hf d)
          | _ => trivial
        obtain ⟨u2, e2, e3⟩ := k.thereP ll q1
        rw [e] at e2
        cases e2
        exact e3.1 ps y⟩
      exact g11 z ⟨W.m, W.μ, H1⟩ ((ev C Kc a).e ρ) _ Q _ k1 (h.at_ (W' := ⟨W.m, W.μ, H1⟩) rfl l1) fun E Q' hw => ⟨z, ρ, ⟨W.m, W.μ, H1⟩, rfl, k1, r.le l1, hw⟩
    · cases hx
  | callv i es ih =>
    refine Snd.ofE rfl rfl fun {Γ X Wx} g x hx => ?_
    split at hx
    · rename_i y p e0 es0 pos
      obtain ⟨hx, h6⟩ := and4 hx
      obtain ⟨hx, h5⟩ := and4 hx
      obtain ⟨hx, h4⟩ := and4 hx
      obtain ⟨hx, h3⟩ := and4 hx
      obtain ⟨h1, h2⟩ := and4 hx
      have eh : Γ.hot = false := by simpa using h1
      obtain ⟨j, hr0, cs⟩ := g.calls eh
      have hr : Room j X.A := hr0.mono (by split <;> omega)
      simp only [List.all_cons, Bool.and_eq_true] at h5
      refine impPE (pe_callLS (i := i) hr (by rw [g.N]; exact of_decide_eq_true h2) (vis_of g.sc h3) (fun σ => L2N.passAt g.tk σ) (ih.Es g _ h6) (nm_of h4).1 (nm_of h4).2 (star_of h5.1) (stars_false h5.2)) fun σ H Q h => ?_
      obtain ⟨z, ρ, W, rfl, k, r, h⟩ := h
      obtain ⟨d, v, e1, e2, h⟩ := get_ok k r h.bind
      cases d with
      | fn kk =>
        cases e2 with
        | fn _ hk =>
          obtain ⟨xn, n, e3⟩ := g.fnr eh kk hk
          obtain ⟨fd, ps, hb, F⟩ := cs _ _ _ e3
          obtain ⟨m1, m2⟩ := g.fns _ _ _ e3
          have h : Wp G z W (((ev C Kc es).es ρ).bind (C kk)) _ _ := h
          exact ⟨_, fd, ps, _, e1, m2, hb, F, z, ρ, W, rfl, k, r, h.bind.mono (fun ds W1 k1 l1 h1 vs rv => ⟨z, ds, W1, rfl, by rw [← rv.len]; exact g.arity _ _ _ e3 _ _ _ _ _ h1, k1, rv, h1⟩) fun _ _ _ _ _ q => q⟩
      | _ => exact (show False from h).elim
    · cases hx
  | dnew tt =>
    refine Snd.ofE rfl rfl fun {Γ X Wx} g x hx => ?_
    split at hx
    · cases tt with
      | true =>
        refine impPE pe_dnewT fun σ H Q h => ?_
        obtain ⟨z, ρ, W, rfl, k, r, h⟩ := h
        intro p hp
        obtain ⟨k2, l2, m2⟩ := k.newRef (o := .dT []) (ob := .dT []) hp (fun _ q => nomatch q) fun F e => ⟨[], upd_same, .nil⟩
        exact h ⟨W.m ++ [p], W.μ ++ [.dT []], upd W.H p (.dT [])⟩ rfl k2 l2 (.ref p) (.ref m2)
      | false =>
        refine impPE pe_dnewK fun σ H Q h => ?_
        obtain ⟨z, ρ, W, rfl, k, r, h⟩ := h
        intro p hp
        obtain ⟨k2, l2, m2⟩ := k.newRef (o := .dK []) (ob := .dK []) hp (fun _ q => nomatch q) fun F e => ⟨[], upd_same, .nil⟩
        exact h ⟨W.m ++ [p], W.μ ++ [.dK []], upd W.H p (.dK [])⟩ rfl k2 l2 (.ref p) (.ref m2)
    · cases hx
  | dget a b iha ihb =>
    refine Snd.ofE rfl rfl fun {Γ X Wx} g x hx => ?_
    split at hx
    · obtain ⟨hx, h3⟩ := and4 hx
      obtain ⟨h1, h2⟩ := and4 hx
      refine impPE (pe_dget (by have := g.room; omega) (iha.E g _ h2) (ihb.E g _ h3) (nosl_of h1)) fun σ H Q h => bin2 h fun z ρ W d1 d2 v1 v2 k _ r1 r2 h => ?_
      by_cases q : ∃ ds, d2 = .tup ds
      · obtain ⟨ds, rfl⟩ := q
        exact (nokey h k r1).elim
      · obtain ⟨a, v, d, e1, e2, e3, e4, _⟩ := dget_ok k r1 r2 (show Wp G z W (dgetop d1 d2) _ _ from by
          have e : dgetK d1 d2 = dgetop d1 d2 := by
            unfold dgetK
            cases d2 <;> first | rfl | exact absurd ⟨_, rfl⟩ q
          rw [← e]
          exact h)
        exact ⟨a, v, e1, e4 fun ds y => q ⟨ds, y⟩, e3 v e2⟩
    · cases hx
  | dgetT a es iha ihes =>
    refine Snd.ofE rfl rfl fun {Γ X Wx} g x hx => ?_
    split at hx
    · obtain ⟨h1, h2⟩ := and4 hx
      refine impPE (pe_dget (by have := g.room; omega) (iha.E g _ h1) (pe_tup (ihes.Es g _ h2)) (nosl_of rfl)) fun σ H Q h => un1 h fun z ρ W d v k r rv h => ?_
      refine ⟨z, ρ, W, rfl, k, r, h.bind.mono (fun ds W1 k1 l1 h1 vs rvs => ?_) fun _ _ _ _ _ q => q⟩
      have h1 := h1.bind
      unfold lenOk at h1
      rcases h1.ite with ⟨hl, h1⟩ | ⟨_, h1⟩
      · refine ⟨by rw [← rvs.len]; exact hl, fun p hp => ?_⟩
        have h1 := h1.pure0 k1
        obtain ⟨k2, l2, f2⟩ := k1.new (o := .tup vs) hp
        obtain ⟨a, v2, d2, e1, e2, e3, _, e5⟩ := dget_ok k2 ((rv.le l1).le l2) (Rp.tup (SqT.of f2) (rvs.le l2)) (h1.at_ (W' := ⟨W1.m, W1.μ, upd W1.H p (.tup vs)⟩) rfl l2)
        exact ⟨a, v2, e1, e5 ds vs rfl (rvs.le l2) p _ upd_same (fun _ _ q => q), e3 v2 e2⟩
      · exact h1.bad.elim
    · cases hx
  | lrng a b iha ihb =>
    have key : ∀ {Γ X Wx}, Good G C Kc Γ X Wx → ∀ x, (match x with
      | .Call (.Name y _) [.Call (.Name z _) [e, u] [] _] [] _ => !Γ.hot && decide (y = ("list" : Str)) && decide (z = ("range" : Str)) && glB Γ.sc y && glB Γ.sc z && notStar e && notStar u && (ck a).e Γ e && (ck b).e Γ u
      | _ => false) = true → PE X x (tL G Wx fun ρ => ((ev C Kc a).e ρ).bind fun x => ((ev C Kc b).e ρ).bind fun y => (rng2 x y).bind lenOk) := by
      intro Γ X Wx g x hx
      split at hx
      · obtain ⟨hx, h9⟩ := and4 hx
        obtain ⟨hx, h8⟩ := and4 hx
        obtain ⟨hx, h7⟩ := and4 hx
        obtain ⟨hx, h6⟩ := and4 hx
        obtain ⟨hx, h5⟩ := and4 hx
        obtain ⟨hx, h4⟩ := and4 hx
        obtain ⟨hx, h3⟩ := and4 hx
        obtain ⟨h1, h2⟩ := and4 hx
        have eh : Γ.hot = false := by simpa using h1
        cases of_decide_eq_true h2
        cases of_decide_eq_true h3
        refine impPE (pe_listRg (g.calm eh) (gl_of g.sc h4) (g.bi _ (by decide)) (prg_2 (gl_of g.sc h5) (g.bi _ (by decide)) (iha.E g _ h8) (ihb.E g _ h9) (star_of h6) (star_of h7) (by rw [star_of h7]; rfl)) (star_of rfl)) fun σ H Q h => bin2 h fun z ρ W d1 d2 v1 v2 k _ r1 r2 h => ?_
        have q : ∃ i j, d1 = .int i ∧ d2 = .int j := by
          cases d1 <;> first
            | exact (show False from h).elim
            | (cases d2 <;> first | exact ⟨_, _, rfl, rfl⟩ | exact (show False from h).elim)
        obtain ⟨i, j, rfl, rfl⟩ := q
        cases r1
        cases r2
        have h : Wp G z W ((if (-lim ≤ i ∧ i < lim) ∧ (-lim ≤ j ∧ j < lim) then M.pure ((List.range (j - i).toNat).map fun (k : Nat) => D.int (i + (k : Int))) else M.bad).bind lenOk) _ _ := h
        by_cases c : (-lim ≤ i ∧ i < lim) ∧ (-lim ≤ j ∧ j < lim)
        · rw [if_pos c] at h
          have h := h.bind.pure0 k
          unfold lenOk at h
          rcases h.ite with ⟨hl, h⟩ | ⟨_, h⟩
          · rw [List.length_map, List.length_range] at hl
            refine ⟨i, j, rfl, rfl, ⟨c.1.1, c.1.2, c.2.1, c.2.2, hl⟩, fun p hp => h.pure0 k _ ?_ p hp⟩
            unfold rgV
            exact ints_rep2 _ _
          · exact h.bad.elim
        · rw [if_neg c] at h
          exact h.bind.bad.elim
      · cases hx
    exact Snd.ofLL rfl rfl key
  | trng a b iha ihb =>
    refine Snd.ofE rfl rfl fun {Γ X Wx} g x hx => ?_
    split at hx
    · obtain ⟨hx, h9⟩ := and4 hx
      obtain ⟨hx, h8⟩ := and4 hx
      obtain ⟨hx, h7⟩ := and4 hx
      obtain ⟨hx, h6⟩ := and4 hx
      obtain ⟨hx, h5⟩ := and4 hx
      obtain ⟨hx, h4⟩ := and4 hx
      obtain ⟨hx, h3⟩ := and4 hx
      obtain ⟨h1, h2⟩ := and4 hx
      have eh : Γ.hot = false := by simpa using h1
      cases of_decide_eq_true h2
      cases of_decide_eq_true h3
      refine impPE (pe_tupRg (g.calm eh) (gl_of g.sc h4) (g.bi _ (by decide)) (prg_2 (gl_of g.sc h5) (g.bi _ (by decide)) (iha.E g _ h8) (ihb.E g _ h9) (star_of h6) (star_of h7) (by rw [star_of h7]; rfl)) (star_of rfl)) fun σ H Q h => bin2 h fun z ρ W d1 d2 v1 v2 k _ r1 r2 h => ?_
      have q : ∃ i j, d1 = .int i ∧ d2 = .int j := by
        cases d1 <;> first
          | exact (show False from h).elim
          | (cases d2 <;> first | exact ⟨_, _, rfl, rfl⟩ | exact (show False from h).elim)
      obtain ⟨i, j, rfl, rfl⟩ := q
      cases r1
      cases r2
      have h : Wp G z W ((if (-lim ≤ i ∧ i < lim) ∧ (-lim ≤ j ∧ j < lim) then M.pure ((List.range (j - i).toNat).map fun (k : Nat) => D.int (i + (k : Int))) else M.bad).bind fun xs => (lenOk xs).bind fun xs => M.pure (D.tup xs)) _ _ := h
      by_cases c : (-lim ≤ i ∧ i < lim) ∧ (-lim ≤ j ∧ j < lim)
      · rw [if_pos c] at h
        have h := (h.bind.pure0 k).bind
        unfold lenOk at h
        rcases h.ite with ⟨hl, h⟩ | ⟨_, h⟩
        · rw [List.length_map, List.length_range] at hl
          refine ⟨i, j, rfl, rfl, ⟨c.1.1, c.1.2, c.2.1, c.2.2, hl⟩, new_tup k ?_ (h.pure0 k)⟩
          unfold rgV
          exact ints_rep2 _ _
        · exact h.bad.elim
      · rw [if_neg c] at h
        exact h.bind.bad.elim
    · cases hx
  | rev a iha =>
    refine Snd.ofLL rfl rfl fun {Γ X Wx} g x hx => ?_
    split at hx
    · obtain ⟨h1, h2⟩ := and4 hx
      cases of_decide_eq_true h1
      refine impPE (pe_revL (iha.E g _ h2)) fun σ H Q h => un1 (op := fun _ x => (seqL x).bind fun xs => M.pure xs.reverse) h fun z ρ W d v k r rv h => ?_
      rw [g.K]
      obtain ⟨a, xs, vs, rfl, q1, q2, q3⟩ := seqL_ok k rv h.bind
      exact ⟨a, vs, rfl, SqL.of q1, fun p hp => q3.pure0 k _ (Rps.rev q2) p hp⟩
    · cases hx
  | range3 a b c iha ihb ihc =>
    refine Snd.ofI rfl rfl fun {Γ X Wx} g tg x hx => ?_
    split at hx
    · obtain ⟨hx, h9⟩ := and4 hx
      obtain ⟨hx, h8⟩ := and4 hx
      obtain ⟨hx, h7⟩ := and4 hx
      obtain ⟨hx, h6⟩ := and4 hx
      obtain ⟨hx, h5⟩ := and4 hx
      obtain ⟨hx, h4⟩ := and4 hx
      obtain ⟨hx, h3⟩ := and4 hx
      obtain ⟨hh, h1⟩ := and4 hx
      have eh : Γ.hot = false := by simpa using hh
      cases of_decide_eq_true h1
      refine ⟨fun _ => ?_, (fun e => by rw [eh] at e; cases e)⟩
      refine impPI (pi_range3 (gl_of g.sc h3) (g.bi _ (by decide)) (pa_cons (iha.E g _ h7) (pa_cons (ihb.E g _ h8) (pa_cons (ihc.E g _ h9) pa_nil (star_of h6)) (star_of h5)) (star_of h4)) (by rw [star_of h4, star_of h5, star_of h6] <;> rfl) (by rw [star_of h5, star_of h6] <;> rfl)) fun σ H Q h => tri2 h fun z ρ W d1 d2 d3 v1 v2 v3 k _ r1 r2 r3 h => ?_
      have q : ∃ i j c, d1 = .int i ∧ d2 = .int j ∧ d3 = .int c := by
        cases d1 <;> first
          | exact (show False from h).elim
          | (cases d2 <;> first
            | exact (show False from h).elim
            | (cases d3 <;> first | exact ⟨_, _, _, rfl, rfl, rfl⟩ | exact (show False from h).elim))
      obtain ⟨i, j, c, rfl, rfl, rfl⟩ := q
      cases r1
      cases r2
      cases r3
      rcases (show Wp G z W (if ((-lim ≤ i ∧ i < lim) ∧ (-lim ≤ j ∧ j < lim)) ∧ rng3ok i j c = true then M.pure ((List.range (rngN i j c)).map fun (k : Nat) => D.int (i + (k : Int) * c)) else M.bad) _ _ from h).ite with ⟨q, h⟩ | ⟨q, h⟩
      · exact ⟨i, j, c, _, rfl, rgC_of q.1 q.2, h.pure0 k _ it_rngC⟩
      · exact h.bad.elim
    · cases hx
  | index a b iha ihb =>
    refine Snd.ofE rfl rfl fun {Γ X Wx} g x hx => ?_
    split at hx
    · obtain ⟨h, h6⟩ := and4 hx
      obtain ⟨h, h5⟩ := and4 h
      obtain ⟨h, h4⟩ := and4 h
      obtain ⟨h, h3⟩ := and4 h
      obtain ⟨h1, h2⟩ := and4 h
      cases of_decide_eq_true h1
      refine impPE (pe_bm PySem.F.plainAttrs_list PySem.F.slot_list_index PySem.F.type_list_index mt_index (iha.E g _ h5) (pa_cons (ihb.E g _ h6) pa_nil (star_of h3)) (base_of h4) (by rw [star_of h3]; rfl) h2 (star_of h3)) fun σ H Q q => ?_
      refine un1 (op := fun ρ x => (seqL x).bind fun _ => ((ev C Kc b).e ρ).bind fun y => indexop x y) q fun z ρ W d v k r rv h => ?_
      obtain ⟨a, xs, vs, rfl, q1, q2, h⟩ := seqL_ok k rv h.bind
      refine ⟨.inl ⟨rfl, vs, SqL.of q1⟩, z, ρ, W, rfl, k, r, h.bind.mono (fun d1 W1 k1 l1 h1 v1 rv1 => ?_) fun _ _ _ _ _ q => q⟩
      have h1 : Wp G z W1 ((seqL d).bind fun xs => if (d1.flat && xs.all D.flat) = true then (M.opt (xs.findIdx? fun z => D.eqF z d1)).bind fun j => M.pure (D.int (j : Nat)) else M.bad) _ _ := h1
      obtain ⟨a2, xs2, vs2, e2, q3, q4, h1⟩ := seqL_ok k1 (rv.le l1) h1.bind
      cases e2
      rcases h1.ite with ⟨hf, h1⟩ | ⟨_, h1⟩
      · simp only [Bool.and_eq_true] at hf
        obtain ⟨j, ej, h1⟩ := h1.bind.opt k1
        obtain ⟨w', p1, p2, p3⟩ := index_of rv1 hf.1 q4 hf.2 ej
        rw [g.K]
        exact ⟨a, vs2, v1, j, w', rfl, rfl, SqL.of q3, flat_of rv1 hf.1, flats_of q4 hf.2, p1, p2, p3, h1.pure0 k1 _ (.int _)⟩
      · exact h1.bad.elim
    · cases hx
  | nil =>
    refine ⟨?_, ?_, ?_, ?_, ?_, ?_, ?_, ?_⟩
    · exact fun g x hx => nomatch (show false = true from hx)
    · exact fun g x hx => nomatch (show false = true from hx)
    · intro Γ X Wx g xs hx
      cases xs with
      | nil =>
        refine impPA pa_nil fun σ H Q ⟨z, ρ, W, e, k, rr, h⟩ => ?_
        subst e
        exact h.pure0 k [] .nil
      | cons _ _ => cases hx
    · exact fun g tg x hx => nomatch (show false = true from hx)
    · intro Γ X Wx g o hx
      cases o with
      | none =>
        refine impPO po_none fun σ H Q ⟨z, ρ, W, e, k, rr, h⟩ => ?_
        subst e
        exact h.pure0 k
      | some _ => cases hx
    · exact fun g o x p hx => nomatch (show false = true from hx)
    · exact fun g o x p hx => nomatch (show false = true from hx)
    · exact fun g x hx => nomatch (show false = true from hx)
  | cons e es ihe ihes =>
    refine ⟨?_, ?_, ?_, ?_, ?_, ?_, ?_, ?_⟩
    · exact fun g x hx => nomatch (show false = true from hx)
    · exact fun g x hx => nomatch (show false = true from hx)
    · intro Γ X Wx g xs hx
      cases xs with
      | nil => cases hx
      | cons y ys =>
        have hx : (notStar y && (ck e).e Γ y && (ck es).es Γ ys) = true := hx
        obtain ⟨hx, h3⟩ := and4 hx
        obtain ⟨h1, h2⟩ := and4 hx
        refine impPA (pa_cons (ihe.E g _ h2) (ihes.Es g _ h3) (star_of h1)) fun σ H Q h => ?_
        refine un1 h fun z ρ W d v k r rv h => ?_
        exact ⟨z, ρ, W, rfl, k, r, h.bind.mono (fun ds W1 k1 l1 h1 vs rvs => h1.pure0 k1 (v :: vs) (.cons (rv.le l1) rvs)) fun _ _ _ _ _ q => q⟩
    · exact fun g tg x hx => nomatch (show false = true from hx)
    · exact fun g o hx => nomatch (show false = true from hx)
    · intro Γ X Wx g o xs pos hx
      match xs, hx with
      | [y], hx =>
        obtain ⟨h1, h2⟩ := and4 (show (_ && (ck e).e Γ y) = true from hx)
        cases es with
        | nil => exact pe_one (ihe.E g _ h2)
        | _ => cases h1
      | y :: z :: ys, hx =>
        obtain ⟨h1, h3⟩ := and4 (show (_ && (ck e).e Γ y && (ck es).b Γ o (z :: ys)) = true from hx)
        obtain ⟨h1, h2⟩ := and4 h1
        cases es with
        | cons e2 es2 =>
          cases o with
          | And =>
            refine impPE (pe_andT (ihe.E g _ h2) (ihes.B g _ _ _ h3)) fun σ H Q h => ?_
            have h : Run G Wx (fun ρ => ((ev C Kc e).e ρ).bind fun x => (truth x).bind fun k => boolV .And k x ((ev C Kc (.cons e2 es2)).b .And ρ)) σ H fun z d W => ∀ v, RpW G z W d v → Q v W.H := h
            refine un1 h fun z ρ W d v k r rv h => ?_
            obtain ⟨b, q1, q2⟩ := truth_ok k rv h.bind
            rw [g.K]
            refine ⟨b, q1, ?_⟩
            cases b with
            | true =>
              rw [if_pos rfl]
              exact ⟨z, ρ, W, rfl, k, r, q2⟩
            | false =>
              rw [if_neg Bool.false_ne_true]
              exact (show Wp G z W (M.pure d) _ _ from q2).pure0 k v rv
          | Or =>
            refine impPE (pe_orT (ihe.E g _ h2) (ihes.B g _ _ _ h3)) fun σ H Q h => ?_
            have h : Run G Wx (fun ρ => ((ev C Kc e).e ρ).bind fun x => (truth x).bind fun k => boolV .Or k x ((ev C Kc (.cons e2 es2)).b .Or ρ)) σ H fun z d W => ∀ v, RpW G z W d v → Q v W.H := h
            refine un1 h fun z ρ W d v k r rv h => ?_
            obtain ⟨b, q1, q2⟩ := truth_ok k rv h.bind
            rw [g.K]
            refine ⟨b, q1, ?_⟩
            cases b with
            | false =>
              rw [if_neg Bool.false_ne_true]
              exact ⟨z, ρ, W, rfl, k, r, q2⟩
            | true =>
              rw [if_pos rfl]
              exact (show Wp G z W (M.pure d) _ _ from q2).pure0 k v rv
        | _ => cases h1
      | [], hx => cases hx
    · intro Γ X Wx g o xs pos hx
      match xs, hx with
      | [y], hx =>
        obtain ⟨h1, h2⟩ := and4 (show (_ && (ck e).t Γ y) = true from hx)
        cases es with
        | nil =>
          cases o with
          | And => exact pw_and1 (ihe.T g _ h2)
          | Or => exact pw_or1 (ihe.T g _ h2)
        | _ => cases h1
      | y :: z :: ys, hx =>
        obtain ⟨h1, h3⟩ := and4 (show (_ && (ck e).t Γ y && (ck es).bt Γ o (z :: ys)) = true from hx)
        obtain ⟨h1, h2⟩ := and4 h1
        cases es with
        | cons e2 es2 =>
          cases o with
          | And =>
            refine impPW (pw_and (ihe.T g _ h2) (ihes.BT g _ _ _ h3)) fun σ H Q h => ?_
            have h : Run G Wx (fun ρ => ((ev C Kc e).t ρ).bind fun k => boolT .And k ((ev C Kc (.cons e2 es2)).bt .And ρ)) σ H fun z b W => Q b W.H := h
            obtain ⟨z, ρ, W, e0, k, rr, h⟩ := h
            refine ⟨z, ρ, W, e0, k, rr, h.bind.mono (fun b W1 k1 l1 q2 => ?_) fun _ _ _ _ _ q => q⟩
            cases b with
            | true =>
              rw [if_pos rfl]
              exact ⟨z, ρ, W1, rfl, k1, rr.le l1, q2⟩
            | false =>
              rw [if_neg Bool.false_ne_true]
              exact (show Wp G z W1 (M.pure false) _ _ from q2).pure0 k1
          | Or =>
            refine impPW (pw_or (ihe.T g _ h2) (ihes.BT g _ _ _ h3)) fun σ H Q h => ?_
            have h : Run G Wx (fun ρ => ((ev C Kc e).t ρ).bind fun k => boolT .Or k ((ev C Kc (.cons e2 es2)).bt .Or ρ)) σ H fun z b W => Q b W.H := h
            obtain ⟨z, ρ, W, e0, k, rr, h⟩ := h
            refine ⟨z, ρ, W, e0, k, rr, h.bind.mono (fun b W1 k1 l1 q2 => ?_) fun _ _ _ _ _ q => q⟩
            cases b with
            | false =>
              rw [if_neg Bool.false_ne_true]
              exact ⟨z, ρ, W1, rfl, k1, rr.le l1, q2⟩
            | true =>
              rw [if_pos rfl]
              exact (show Wp G z W1 (M.pure true) _ _ from q2).pure0 k1
        | _ => cases h1
      | [], hx => cases hx
    · exact fun g x hx => nomatch (show false = true from hx)
end DL
/-! DL10: statements -/
namespace DL
open PySem PyProof.Rows L2 PySem.Spec

/-! ### the check -/
/-- names stored from the right, or one after another -/
def swNames (sc : Scope) (line : Nat) (ts : List Expr) : List Str := ts.filterMap fun
  | .Name id pos => if sc.names.lookup id == some .local && pos.line == line then some id else none
  | _ => none
def swR (sc : Scope) (ts vs : List Expr) : Option (Option (List Str)) :=
  if !(ts.length == 2 || ts.length == 3) || vs.length != ts.length then some none
  else if !vs.all notStar then none
  else
    let names := swNames sc ((ts.head?.map (·.pos.line)).getD 0) ts
    if names.length != ts.length || names.eraseDups.length != names.length then some none
    else if vs.all (foldedForSure 8) then some none
    else if vs.all (constantsAlone 8) then none
    else some (some names)
theorem any_star : ∀ (vs : List Expr), vs.all notStar = true → (vs.any fun | .Starred .. => true | _ => false) = false
  | [], _ => rfl
  | e :: es, h => by
    simp only [List.all_cons, Bool.and_eq_true] at h
    rw [List.any_cons, any_star es h.2]
    cases e <;> first | rfl | cases h.1
theorem ite_skip {c : Prop} [Decidable c] {α : Sort _} {a b r : α} (h : ¬ c) (hb : b = r) : (if c then a else b) = r := by
  rw [if_neg h]
  exact hb
theorem swR_ok {env : PySem.Env} {sc : Scope} (hs : env.scope = sc) (hk : env.scope.kind = .function) {ts vs : List Expr} {r : Option (List Str)} (h : swR sc ts vs = some r) (k k2 : Nat) (p p2 : Pos) :
    swappedStores [.Tuple ts k p] (.Tuple vs k2 p2) env = pure r := by
  have hb : env.blockKind = .function := by
    unfold Env.blockKind
    rw [hk]
    rfl
  unfold swR at h
  unfold swappedStores
  simp only [hb]
  by_cases c1 : (!(ts.length == 2 || ts.length == 3) || vs.length != ts.length) = true
  · rw [if_pos c1] at h
    cases h
    rw [if_pos (by rw [c1]; rfl)]
  rw [if_neg c1] at h
  by_cases c2 : (!vs.all notStar) = true
  · rw [if_pos c2] at h
    cases h
  rw [if_neg c2] at h
  have c2' : vs.all notStar = true := by simpa using c2
  have c1' : (!(ts.length == 2 || ts.length == 3) || vs.length != ts.length || (ScopeKind.function != ScopeKind.function)) = false := by
    have : (!(ts.length == 2 || ts.length == 3) || vs.length != ts.length) = false := by simpa using c1
    rw [this]
    rfl
  rw [if_neg (by rw [c1']; exact Bool.false_ne_true)]
  refine ite_skip (fun q => Bool.false_ne_true ((any_star vs c2').symm.trans q)) ?_
  generalize hg : List.filterMap _ ts = nm
  have hn : nm = swNames sc ((ts.head?.map (·.pos.line)).getD 0) ts := hg.symm.trans (by
    unfold swNames
    rw [← hs]
    rfl)
  rw [hn]
  simp only at h
  split at h
  · rename_i c
    cases h
    rw [if_pos c]
  · rename_i c
    rw [if_neg c]
    split at h
    · rename_i c
      cases h
      rw [if_pos c]
    · rename_i c
      rw [if_neg c]
      split at h
      · cases h
      · rename_i c
        cases h
        rw [if_neg c]
/-- where the stored name is dealt with inside the comprehension -/
def swB (sc : Scope) (t : Str) (p : Pos) : Expr → Bool
  | .ListComp _ _ s q => sc.names.lookup t == some .local && p.line == q.line && !(s.names.any fun (n, k) => n == t && (k == .local || k == .cell))
  | _ => false
def isLc : Expr → Bool
  | .ListComp _ _ _ _ => true
  | _ => false
mutual
def ckS (Γ : Cxt) : Sz → Stmt → Bool
  | .set i e, st => match st with
    | .Assign [.Name x p] v pos => Γ.nm i x && Γ.asg x && (ck e).e Γ v && (notComp v || (isLc v && (match swB Γ.sc x p v with
      | false => true
      | true => (match e with
        | .lc _ _ _ _ => true
        | .mkl a => (match a with
          | .lc _ _ _ _ => true
          | _ => false)
        | _ => false))))
    | _ => false
  | .tset ts e, st => match st with
    | .Assign [.Tuple es _ _] v _ => ckTs Γ ts es && (ck e).e Γ v && (match v with
      | .Tuple vs _ _ => decide (swR Γ.sc es vs = some none)
      | _ => true)
    | _ => false
  | .par is e, st => match st with
    | .Assign [.Tuple es _ _] (.Tuple vs k p) _ => !Γ.hot && (ck e).e Γ (.Tuple vs k p) && decide (es.all notStar = true) && (match swR Γ.sc es vs with
      | some (some ns) => ckNs Γ is ns
      | _ => false)
    | _ => false
  | .setix o i e, st => match st with
    | .Assign [.Subscript p q _] v _ => notSlice q && (ck e).e Γ v && (ck o).e Γ p && (ck i).e Γ q
    | _ => false
  | .dset o i e, st => match st with
    | .Assign [.Subscript p q _] v _ => notSlice q && (ck e).e Γ v && (ck o).e Γ p && (ck i).e Γ q
    | _ => false
  | .dsetT o es e, st => match st with
    | .Assign [.Subscript p (.Tuple xs _ _) _] v _ => (ck e).e Γ v && (ck o).e Γ p && (ck es).es Γ xs
    | _ => false
  | .app o e, st => match st with
    | .Expr (.Call (.Attribute p m apos) [x] [] pos) _ => decide (m = ("append" : Str)) && (apos.endLine == pos.line) && notStar x && plainBase p && (ck o).e Γ p && (ck e).e Γ x
    | _ => false
  | .raise c, st => match st with
    | .Raise (some (.Call (.Name y _) [.Constant (.str _) _ _] [] _)) none _ => !Γ.hot && decide (Γ.exs[c]? = some (y, true)) && glB Γ.sc y && okNm y
    | _ => false
  | .expr e, st => match st with
    | .Expr v _ => notComp v && (ck e).e Γ v
    | _ => false
  | .ret e, st => match st with
    | .Return (some v) _ => (ck e).e Γ v
    | _ => false
  | .ite c a b, st => match st with
    | .If t p q _ => (ck c).t Γ t && ckB Γ a p && ckB Γ b q
    | _ => false
  | .for tg it b, st => match st with
    | .For t i p [] _ => !Γ.hot && ckT Γ tg t && (ck it).i Γ (isTup t) i && notSet i && ckB Γ b p
    | _ => false
  | .while _ c b, st => match st with
    | .While t p [] _ => !Γ.hot && (ck c).t Γ t && ckB Γ b p
    | _ => false
  | .never, _ => true
  | .pass, st => match st with
    | .Pass _ => true
    | _ => false
  | .brk, st => match st with
    | .Break _ => true
    | _ => false
  | .cont, st => match st with
    | .Continue _ => true
    | _ => false
  | .nil, _ => false
  | .cons _ _, _ => false
def ckB (Γ : Cxt) : Sz → List Stmt → Bool
  | .nil, [] => true
  | .never, _ => true
  | .cons s ss, st :: sts => ckS Γ s st && ckB Γ ss sts
  | _, _ => false
def ckNs (Γ : Cxt) : List Nat → List Str → Bool
  | [], [] => true
  | i :: is, x :: xs => Γ.nm i x && (Γ.sc.names.lookup x == some .local) && ckNs Γ is xs
  | _, _ => false
end

/-! ### readings -/
def outW (G : Gx) (z : List Addr) (Dn : Ends) : Out → Wd → Prop := fun o W => match o with
  | .nx ρ => ∀ σ, EnvR G z W ρ σ → Dn.nx σ W.H
  | .rt d => ∀ v, RpW G z W d v → Dn.rt v W.H
  | .bk ρ => ∀ σ, EnvR G z W ρ σ → Dn.bk σ W.H
  | .ct ρ => ∀ σ, EnvR G z W ρ σ → Dn.ct σ W.H
def exS (G : Gx) (z : List Addr) (Wx : WX) : Nat → List D → Wd → Prop := fun c xs W => ∀ σ d, ExR G z xs d W → Wx (.ref (G.ca c)) d σ W.H
def tS (G : Gx) (Wx : WX) (f : Env → M Out) : TS := fun Dn σ H => ∃ z ρ W, W.H = H ∧ Mok G z W ∧ EnvR G z W ρ σ ∧ Wp G z W (f ρ) (outW G z Dn) (exS G z Wx)
theorem impPS {X : Cx} {e : Stmt} {t t' : TS} (h : PS X e t) (hi : ∀ Dn σ H, t' Dn σ H → t Dn σ H) : PS X e t' := ⟨fun pins s σ H Dn I q => h.run pins s σ H Dn I (hi Dn σ H q)⟩
theorem impPSs {X : Cx} {e : List Stmt} {t t' : TS} (h : PSs X e t) (hi : ∀ Dn σ H, t' Dn σ H → t Dn σ H) : PSs X e t' := ⟨fun pins s σ H Dn I q => h.run pins s σ H Dn I (hi Dn σ H q)⟩
section
variable {G : Gx} {Wx : WX} {σ : L2.St} {H : Hp} {Dn : Ends}
/-- a value, then what is done with it -/
theorem s1 {f : Env → M D} {op : Env → D → M Out} (h : tS G Wx (fun ρ => (f ρ).bind (op ρ)) Dn σ H) {R : V → Hp → Prop}
    (hr : ∀ z ρ W d v, Mok G z W → EnvR G z W ρ σ → RpW G z W d v → Wp G z W (op ρ d) (outW G z Dn) (exS G z Wx) → R v W.H) : tD G Wx f σ H R := by
  obtain ⟨z, ρ, W, e, k, r, h⟩ := h
  exact ⟨z, ρ, W, e, k, r, h.bind.mono (fun d1 W1 k1 l1 h1 v1 rv1 => hr z ρ W1 d1 v1 k1 (r.le l1) rv1 h1) fun c xs W' k' l' q d hd => q σ d hd⟩
end
/-- what a def's body gives, besides -/
structure GoodS (G : Gx) (C : Nat → List D → M D) (Kc : Nat → D) (Γ : Cxt) (X : Cx) (Wx : WX) : Prop where
  g : Good G C Kc Γ X Wx
  po : Γ.hot = false → PassesOwn (model X.prog X.w) X.A X.env X.xe
  kd : Γ.sc.kind = .function
theorem swap_lc {env : PySem.Env} {sc : Scope} (hs : env.scope = sc) (hk : env.scope.kind = .function) {t : Str} {p : Pos} {n : Nat} {v : Expr} (hl : isLc v = true) : swapsWith v (some (.Name t p)) n env = pure (swB sc t p v) := by
  cases v with
  | ListComp elt gs s q =>
    have hb : env.blockKind = .function := by
      unfold Env.blockKind
      rw [hk]
      rfl
    unfold swapsWith swB
    simp only [hb, Expr.pos]
    rw [← hs]
    rfl
  | _ => cases hl
theorem swap_tup {v : Expr} {es : List Expr} {k n : Nat} {p : Pos} {env : PySem.Env} : swapsWith v (some (.Tuple es k p)) n env = pure false := by
  cases v <;> rfl
theorem swap_sub {v o i : Expr} {n : Nat} {p : Pos} {env : PySem.Env} : swapsWith v (some (.Subscript o i p)) n env = pure false := by
  cases v <;> rfl
theorem sw_sub {v o i : Expr} {p : Pos} {env : PySem.Env} : swappedStores [.Subscript o i p] v env = pure none := by
  cases v <;> rfl
theorem asg_sub {o i : Expr} {pos : Pos} {env : PySem.Env} (h : notSlice i = true) (v : Value) : assign (.Subscript o i pos) env v = (do
      let ov ← holding [v] (eval o env)
      let iv ← holding [v, ov] (eval i env)
      standAt pos
      holding [v, ov, iv] (setItem ov iv v)
      release [v, ov, iv] []) := by
  cases i <;> first | rfl | cases h
theorem sw_none {v : Expr} {ts : List Expr} {k : Nat} {p : Pos} {env : PySem.Env} (h : ∀ vs k2 p2, v ≠ .Tuple vs k2 p2) : swappedStores [.Tuple ts k p] v env = pure none := by
  cases v <;> first | rfl | exact absurd rfl (h _ _ _)
/-! ### names stored from the right -/
theorem stores_ok {G : Gx} {C : Nat → List D → M D} {Kc : Nat → D} {Γ : Cxt} {X : Cx} {Wx : WX} (g : Good G C Kc Γ X Wx) {pins : List (Addr × Obj)} {H : Hp} {z : List Addr} {W : Wd} {Q : L2.St → Prop} :
    ∀ (ps : List (Nat × Str)) (ds : List D) (vs : List V) (us : List Value) (ρ ρ' : Env) (σ : L2.St) (s : Shared), (∀ p ∈ ps, X.N[p.1]? = some p.2 ∧ X.env.scope.names.lookup p.2 = some .local) → RpsW G z W ds vs → Vals vs us → ds.length = ps.length →
    Inv X pins σ H s → EnvR G z W ρ σ → setAll ((ps.map (·.1)).zip ds) ρ = some ρ' → (∀ σ', EnvR G z W ρ' σ' → Q σ') →
    wpAny (model X.prog X.w) X.A (assignInOrder (ps.map fun p => fun v => bindName X.env p.2 v) us) (fun _ s' => ∃ σ', Inv X pins σ' H s' ∧ Q σ') X.xe s
  | [], ds, vs, us, ρ, ρ', σ, s, hp, rd, rv, hl, I, r, hs, hQ => by
    cases ds with
    | cons d ds => cases hl
    | nil =>
      cases rd
      cases rv
      cases hs
      exact assignInOrder_nil ⟨σ, I, hQ σ r⟩
  | (i, x) :: ps, [], vs, us, ρ, ρ', σ, s, hp, rd, rv, hl, I, r, hs, hQ => nomatch hl
  | (i, x) :: ps, d :: ds, vs, us, ρ, ρ', σ, s, hp, rd, rv, hl, I, r, hs, hQ => by
    cases rd with
    | cons rd1 rd2 =>
      cases rv with
      | cons rv1 rv2 =>
        have hs : (if i < ρ.length then setAll ((ps.map (·.1)).zip ds) (ρ.set i (some d)) else none) = some ρ' := hs
        split at hs
        · obtain ⟨p1, p2⟩ := hp (i, x) List.mem_cons_self
          refine assignInOrder_cons (wpAny_bindName (store_ok I (by rw [g.N]; exact g.nd) p1 (.inl p2) rv1 (fun s2 I2 => ?_) (.inr p2)))
          exact stores_ok g ps ds _ _ _ ρ' _ s2 (fun q hq => hp q (List.mem_cons_of_mem _ hq)) rd2 rv2 (Nat.succ.inj hl) I2 (r.set rd1 i) hs hQ
        · cases hs
theorem ckNs_ok {Γ : Cxt} : ∀ {is : List Nat} {ns : List Str}, ckNs Γ is ns = true → is.length = ns.length ∧ ∀ p ∈ is.zip ns, Γ.N[p.1]? = some p.2 ∧ Γ.sc.names.lookup p.2 = some .local
  | [], [], _ => ⟨rfl, fun p hp => nomatch hp⟩
  | i :: is, x :: xs, h => by
    simp only [ckNs, Bool.and_eq_true] at h
    obtain ⟨q1, q2⟩ := ckNs_ok h.2
    refine ⟨by rw [List.length_cons, List.length_cons, q1], fun p hp => ?_⟩
    rcases List.mem_cons.mp hp with e | hp
    · rw [e]
      exact ⟨of_decide_eq_true h.1.1, beq_iff_eq.mp h.1.2⟩
    · exact q2 p hp
  | [], _ :: _, h => by cases h
  | _ :: _, [], h => by cases h
theorem zip_rev {α β : Type} {xs : List α} {ys : List β} (h : xs.length = ys.length) : xs.reverse.zip ys.reverse = (xs.zip ys).reverse := by
  induction xs generalizing ys with
  | nil =>
    cases ys with
    | nil => rfl
    | cons y ys => cases h
  | cons x xs ih =>
    cases ys with
    | nil => cases h
    | cons y ys =>
      have h' : xs.length = ys.length := Nat.succ.inj h
      rw [List.reverse_cons, List.reverse_cons, List.zip_append (by rw [List.length_reverse, List.length_reverse, h']), ih h']
      show _ = ((x, y) :: xs.zip ys).reverse
      rw [List.reverse_cons]
      rfl
theorem Vals.rev {xs : List V} {us : List Value} (h : Vals xs us) : Vals xs.reverse us.reverse := Vals.reverse h
theorem ps_parN {G : Gx} {C : Nat → List D → M D} {Kc : Nat → D} {Γ : Cxt} {X : Cx} {Wx : WX} (g : GoodS G C Kc Γ X Wx) {is : List Nat} {e : Ez} {es vs : List Expr} {ns : List Str} {k k2 : Nat} {p p2 pos : Pos}
    (eh : Γ.hot = false) (he : (ck e).e Γ (.Tuple vs k2 p2) = true) (hsw : swR Γ.sc es vs = some (some ns)) (hn : ckNs Γ is ns = true) : PS X (.Assign [.Tuple es k p] (.Tuple vs k2 p2) pos) (tS G Wx (evS C Kc (.par is e))) := by
  constructor
  intro pins s σ H Dn I h
  obtain ⟨hlen, hns⟩ := ckNs_ok hn
  rw [exec_Assign_arm]
  refine wpAny_bind (wpAny_standAt (wpAny_bind ?_))
  rw [show swapsWithSole [Expr.Tuple es k p] (.Tuple vs k2 p2) pos.line X.env = pure false from (by unfold swapsWithSole; exact swap_tup)]
  refine wpAny_pure ?_
  rw [if_neg Bool.false_ne_true]
  have T : tD G Wx (ev C Kc e).e σ H fun v H1 => ∃ z ρ W d ρ', W.H = H1 ∧ Mok G z W ∧ EnvR G z W ρ σ ∧ RpW G z W d v ∧ setPar is d ρ = some ρ' ∧ ∀ σ', EnvR G z W ρ' σ' → Dn.nx σ' H1 := by
    refine s1 h fun z ρ W d v k r rv h => ?_
    obtain ⟨ρ', hb, h⟩ := h.bind.opt k
    exact ⟨z, ρ, W, d, ρ', rfl, k, r, rv, hb, fun σ' r' => h.pure0 k σ' r'⟩
  refine wpAny_bind (thn (((snd e).E g.g _ he).run pins s σ H _ I T) ?_)
  rintro u s1 ⟨v, H1, I1, r1, z, ρ, W, d, ρ', rfl, k, r, rv, hb, hQ⟩
  rw [swR_ok g.g.sc (by rw [g.g.sc]; exact g.kd) hsw]
  refine wpAny_bind (wpAny_pure ?_)
  cases d with
  | tup xs =>
    have hb : (if xs.length = is.length then setAll (is.zip xs).reverse ρ else none) = some ρ' := hb
    split at hb
    case isFalse => cases hb
    rename_i hxl
    cases rv with
    | @tup a vs ds h1 h2 =>
      cases r1
      obtain ⟨its, rv, ht, hz⟩ := I1.tuple (xs := vs) (by rw [g.g.K]; exact sqT_of h1)
      have hil : ns.length = its.toArray.size := by
        rw [List.size_toArray, ← rv.length, ← h2.len, hxl, hlen]
      show wpAny _ _ (do rule "assign.swapped-stores"; let items ← unpackItems (.ref a) ns.length none; assignInOrder (ns.reverse.map fun n => bindName X.env n) items.reverse; pure Flow.next) _ _ _
      refine wpAny_bind (wpAny_rule (wpAny_bind ?_))
      rw [hil]
      refine unpackItems_tuple (I1.ok.hd (g.g.calm eh)) ht fun h' hx => wpAny_bind ?_
      have I2 : Inv X pins σ W.H { s1 with heap := h' } := I1.kept (t' := s1.toks) fun b o e => hx b o (Nat.ne_of_lt (Heap.lt_size e)) e
      have er : (ns.reverse.map fun n => bindName X.env n) = ((is.zip ns).reverse.map fun p => fun v => bindName X.env p.2 v) := by
        rw [List.map_reverse, List.map_reverse]
        congr 1
        have : ns = (is.zip ns).map (·.2) := (lens_of hlen).symm
        conv => lhs; rw [this]
        rw [List.map_map]
        rfl
      rw [er]
      refine thn (stores_ok (Q := fun σ' => Dn.nx σ' W.H) g.g (is.zip ns).reverse xs.reverse vs.reverse its.reverse ρ ρ' σ _ (fun q hq => ?_) (Rps.rev h2) (Vals.reverse rv) ?_ I2 r ?_ hQ) ?_
      · have := hns q (List.mem_reverse.mp hq)
        rw [g.g.N, g.g.sc]
        exact this
      · rw [List.length_reverse, List.length_reverse, List.length_zip, hxl, ← hlen, Nat.min_self]
      · have e1 : ((is.zip ns).reverse.map (·.1)).zip xs.reverse = (is.zip xs).reverse := by
          rw [List.map_reverse, ← List.unzip_fst, List.unzip_zip_left (Nat.le_of_eq hlen)]
          exact zip_rev (by rw [hxl])
        rw [e1]
        exact hb
      · rintro _ s3 ⟨σ', I3, q⟩
        exact wpAny_pure ⟨σ', W.H, I3, q⟩
  | _ => cases hb
end DL
/-! DL11: SOUND: checked statements, blocks, loops -/
namespace DL
open PySem PyProof.Rows L2 PySem.Spec

section
variable {G : Gx} {Wx : WX} {σ : L2.St} {H : Hp} {Dn : Ends}
theorem for_ok {tg : Tz} {I : Env → M (List D)} {b : Env → M Out} (h : tS G Wx (fun ρ => (I ρ).bind fun ds => forGo tg b ds ρ) Dn σ H) : tFor (tI G Wx I) (tTg G tg) (tS G Wx b) Dn σ H := by
  obtain ⟨z, ρ, W, rfl, k, r, h⟩ := h
  refine ⟨z, ρ, W, rfl, k, r, h.bind.mono (fun ds W1 k1 l1 h1 J hJ => ?_) fun c xs W' k' l' q d hd => q σ d hd⟩
  refine ⟨fun i m σ H => ∃ (W2 : Wd) (ρ2 : Env), W2.H = H ∧ m = ds.length - i ∧ i ≤ ds.length ∧ Mok G z W2 ∧ EnvR G z W2 ρ2 σ ∧ Le z W1 W2 ∧ Wp G z W2 (forGo tg b (ds.drop i) ρ2) (outW G z Dn) (exS G z Wx),
    ⟨ds.length, W1, ρ, rfl, rfl, Nat.zero_le _, k1, r.le l1, Le.refl _ _, h1⟩, ?_⟩
  rintro i m σ2 H2 ⟨W2, ρ2, rfl, rfl, hi, k2, r2, l2, h2⟩
  have hJ2 := hJ z W2 k2 l2.ext l2.pre
  by_cases hlt : i < ds.length
  · refine .inr ?_
    obtain ⟨d, hd⟩ : ∃ d, ds[i]? = some d := ⟨ds[i], List.getElem?_eq_getElem hlt⟩
    obtain ⟨go, yl⟩ := hJ2.1 i d hd
    have hdrop : ds.drop i = d :: ds.drop (i + 1) := by
      rw [List.drop_eq_getElem_cons hlt]
      have q : ds[i] = d := Option.some.inj ((List.getElem?_eq_getElem hlt).symm.trans hd)
      rw [q]
    rw [hdrop] at h2
    refine ⟨go, fun σ' H' => ∃ (W2 : Wd) (ρ2 : Env), W2.H = H' ∧ i + 1 ≤ ds.length ∧ Mok G z W2 ∧ EnvR G z W2 ρ2 σ' ∧ Le z W1 W2 ∧ Wp G z W2 (forGo tg b (ds.drop (i + 1)) ρ2) (outW G z Dn) (exS G z Wx), fun σ' H' ⟨W2, ρ2, q1, q2, q3⟩ => ⟨ds.length - (i + 1), by omega, W2, ρ2, q1, rfl, q2, q3⟩, fun x H' hy => ?_⟩
    obtain ⟨W3, rfl, e3, k3, l3, rx⟩ := yl x H' hy
    have h2 : Wp G z W2 ((M.opt (bindT tg d ρ2)).bind fun ρ' => (b ρ').bind fun o => match o with
      | .nx ρ1 => forGo tg b (ds.drop (i + 1)) ρ1
      | .ct ρ1 => forGo tg b (ds.drop (i + 1)) ρ1
      | .bk ρ1 => M.pure (.nx ρ1)
      | .rt d => M.pure (.rt d)) (outW G z Dn) (exS G z Wx) := h2
    obtain ⟨ρ', hb, h3⟩ := (h2.at_ e3 l3).bind.opt k3
    refine ⟨z, ρ2, W3, d, ρ', rfl, k3, r2.le l3, rx, hb, fun σ3 r3 _ => ⟨z, ρ', W3, rfl, k3, r3, h3.bind.mono (fun o W4 k4 l4 h4 => ?_) fun _ _ _ _ _ q => q⟩⟩
    cases o with
    | nx ρ1 => exact fun σ' r' => ⟨W4, ρ1, rfl, hlt, k4, r', (l2.trans l3).trans l4, h4⟩
    | ct ρ1 => exact fun σ' r' => ⟨W4, ρ1, rfl, hlt, k4, r', (l2.trans l3).trans l4, h4⟩
    | bk ρ1 => exact fun σ' r' => (show Wp G z W4 (M.pure (Out.nx ρ1)) _ _ from h4).pure0 k4 σ' r'
    | rt v => exact fun u ru => (show Wp G z W4 (M.pure (Out.rt v)) _ _ from h4).pure0 k4 u ru
  · have ei : i = ds.length := by omega
    subst ei
    refine .inl ⟨hJ2.2 _ (Nat.le_refl _), ?_⟩
    rw [List.drop_length] at h2
    exact (show Wp G z W2 (M.pure (Out.nx ρ2)) (outW G z Dn) (exS G z Wx) from h2).pure0 k2 σ2 r2
theorem while_ok {c : Env → M Bool} {b : Env → M Out} {n : Nat} (h : tS G Wx (whileGo c b n) Dn σ H) : tWhile (tT G Wx c) (tS G Wx b) Dn σ H := by
  obtain ⟨z, ρ, W, rfl, k, r, h⟩ := h
  refine ⟨fun m σ H => ∃ (W2 : Wd) (ρ2 : Env), W2.H = H ∧ Mok G z W2 ∧ EnvR G z W2 ρ2 σ ∧ Wp G z W2 (whileGo c b m ρ2) (outW G z Dn) (exS G z Wx), ⟨n, W, ρ, rfl, k, r, h⟩, ?_⟩
  rintro m σ2 H2 ⟨W2, ρ2, rfl, k2, r2, h2⟩
  cases m with
  | zero => exact (show False from h2).elim
  | succ m =>
    have h2 : Wp G z W2 ((c ρ2).bind fun k => if k = true then (b ρ2).bind fun o => match o with
        | .nx ρ1 => whileGo c b m ρ1
        | .ct ρ1 => whileGo c b m ρ1
        | .bk ρ1 => M.pure (.nx ρ1)
        | .rt d => M.pure (.rt d)
      else M.pure (.nx ρ2)) (outW G z Dn) (exS G z Wx) := h2
    refine ⟨z, ρ2, W2, rfl, k2, r2, h2.bind.mono (fun t W3 k3 l3 h3 => ?_) fun c xs W' k' l' q d hd => q σ2 d hd⟩
    cases t with
    | false =>
      rw [if_neg Bool.false_ne_true]
      rw [if_neg Bool.false_ne_true] at h3
      exact h3.pure0 k3 σ2 (r2.le l3)
    | true =>
      rw [if_pos rfl]
      rw [if_pos rfl] at h3
      refine ⟨fun σ' H' => ∃ (W2 : Wd) (ρ2 : Env), W2.H = H' ∧ Mok G z W2 ∧ EnvR G z W2 ρ2 σ' ∧ Wp G z W2 (whileGo c b m ρ2) (outW G z Dn) (exS G z Wx), fun σ' H' q => ⟨m, Nat.lt_succ_self m, q⟩, z, ρ2, W3, rfl, k3, r2.le l3, h3.bind.mono (fun o W4 k4 l4 h4 => ?_) fun _ _ _ _ _ q => q⟩
      cases o with
      | nx ρ1 => exact fun σ' r' => ⟨W4, ρ1, rfl, k4, r', h4⟩
      | ct ρ1 => exact fun σ' r' => ⟨W4, ρ1, rfl, k4, r', h4⟩
      | bk ρ1 => exact fun σ' r' => (show Wp G z W4 (M.pure (Out.nx ρ1)) _ _ from h4).pure0 k4 σ' r'
      | rt v => exact fun u ru => (show Wp G z W4 (M.pure (Out.rt v)) _ _ from h4).pure0 k4 u ru
end
theorem store_ok {G : Gx} {z : List Addr} {W : Wd} {o i x : D} {vo vi vx : V} {P : Unit → Wd → Prop} {Ex : Nat → List D → Wd → Prop} (k : Mok G z W) (ro : RpW G z W o vo) (ri : RpW G z W i vi) (rx : RpW G z W x vx) (h : Wp G z W (storeL o i x) P Ex) :
    ∃ (n : Nat) (a : Addr) (xs : List D) (vs : List V) (ik : Int) (j : Nat) (W' : Wd), vo = .ref a ∧ vi = .int ik ∧ W.H a = some (.lst vs) ∧ ixN vs.length ik = some j ∧ W'.H = upd W.H a (.lst (vs.set j vx)) ∧ Mok G z W' ∧ Le z W W' ∧ W'.μ = W.μ.set n (.lst (xs.set j x)) ∧ P () W' := by
  cases o with
  | ref n =>
    obtain ⟨a, rfl, hm⟩ := ro.inv_ref
    cases i with
    | int ik =>
      cases ri
      cases e : W.μ[n]? with
      | none =>
        have h' : (storeL (.ref n) (.int ik) x W.μ).good _ := h
        simp only [storeL, e] at h'
        exact (show False from h').elim
      | some ob =>
        have h' : (storeL (.ref n) (.int ik) x W.μ).good _ := h
        simp only [storeL, e] at h'
        cases ob with
        | lst xs =>
          simp only at h'
          cases e2 : ixN xs.length ik with
          | none =>
            rw [e2] at h'
            exact (show False from h').elim
          | some j =>
            rw [e2] at h'
            obtain ⟨vs, hv, rv⟩ := k.ob n a _ hm e
            have ln : live W.μ n := by
              unfold live
              rw [e]
              trivial
            obtain ⟨k2, l2⟩ := k.write (ob := .lst (xs.set j x)) (o := .lst (vs.set j vx)) ln hm (fun _ q => nomatch q) ⟨_, upd_same, Rps.set rx j rv⟩
            exact ⟨n, a, xs, vs, ik, j, ⟨W.m, W.μ.set n (.lst (xs.set j x)), upd W.H a (.lst (vs.set j vx))⟩, rfl, rfl, hv, by rw [← rv.len]; exact e2, rfl, k2, l2, rfl, h' _ rfl k2 l2⟩
        | _ => exact (show False from h').elim
    | _ => exact (show False from h).elim
  | _ => exact (show False from h).elim
section
variable {G : Gx} {C : Nat → List D → M D} {Kc : Nat → D} {Γ : Cxt} {X : Cx} {Wx : WX}
theorem set_k {i : Nat} {e : Ez} {Dn : Ends} {σ : L2.St} {H : Hp} (h : tS G Wx (evS C Kc (.set i e)) Dn σ H) : tD G Wx (ev C Kc e).e σ H fun x H1 => gName i x σ H1 Dn.nx := by
  refine s1 h fun z ρ W d v k r rv h => ?_
  unfold setE at h
  rcases h.ite with ⟨q, h⟩ | ⟨_, h⟩
  · exact h.pure0 k _ (r.set rv i)
  · exact h.bad.elim
mutual
theorem ps_ok (g : GoodS G C Kc Γ X Wx) : ∀ (s : Sz) (st : Stmt), ckS Γ s st = true → PS X st (tS G Wx (evS C Kc s))
  | .set i e, st, h => by
    unfold ckS at h
    split at h
    case h_1 x p v pos =>
      obtain ⟨h, h4⟩ := and4 h
      obtain ⟨h, h3⟩ := and4 h
      obtain ⟨h1, h2⟩ := and4 h
      obtain ⟨a1, a2⟩ := asg_of g.g h2
      have hi : X.N[i]? = some x := by rw [g.g.N]; exact of_decide_eq_true h1
      have hN : X.N.Nodup := by rw [g.g.N]; exact g.g.nd
      rcases Bool.or_eq_true_iff.mp h4 with h4 | h4
      · exact impPS (ps_set hN hi a1 ((snd e).E g.g v h3) (swap_none h4 _) a2) fun Dn σ H q => set_k q
      · obtain ⟨h4, h5⟩ := and4 h4
        have hk : X.env.scope.kind = .function := by rw [g.g.sc]; exact g.kd
        have sw := swap_lc (n := pos.line) g.g.sc hk (t := x) (p := p) h4
        cases e2 : swB Γ.sc x p v with
        | false =>
          rw [e2] at sw
          exact impPS (ps_set hN hi a1 ((snd e).E g.g v h3) sw a2) fun Dn σ H q => set_k q
        | true =>
          rw [e2] at sw h5
          simp only at h5
          cases e with
          | lc tg it cond elt =>
            cases eh : Γ.hot with
            | true =>
              refine lc_with g.g (snd it) (snd cond) (snd elt) h3 (fun st H s Cc cl fp => L2H.blkH X st H s (compEnvC s cl Cc X.env) fp) (fun st H s Cc cl fp => g.g.blkH st H s Cc cl fp) fun y tgx itx ifs s lpos own e eo p1 p2 p3 p4 p5 p6 => ?_
              subst e
              have hl : X.env.scope.names.lookup x = some .local := by
                rw [g.g.sc]
                unfold swB at e2
                simp only [Bool.and_eq_true, beq_iff_eq] at e2
                exact e2.1.1
              have P := L2H.ps_setLcH (X := X) (pos := lpos) (g.g.hotc eh) hN hi hl sw (p1.2 eh) p2 (fun st H cl Cc fp => p3 st H cl Cc fp) (fun st H cl Cc fp => p4 st H cl Cc fp) (fun st H cl Cc fp => p5 st H cl Cc fp) p6
              rw [eo] at P
              refine impPS P fun Dn σ H q => ?_
              have q2 := set_k q
              exact lc_ok (tD_of_tL q2)
            | false =>
            refine lc_with g.g (snd it) (snd cond) (snd elt) h3 (fun st H s Cc cl fp => X.blk st H s (compEnvC s cl Cc X.env) fp) (fun st H s Cc cl fp => g.g.blk eh st H s Cc cl fp) fun y tgx itx ifs s lpos own e eo p1 p2 p3 p4 p5 p6 => ?_
            subst e
            have hl : X.env.scope.names.lookup x = some .local := by
              rw [g.g.sc]
              unfold swB at e2
              simp only [Bool.and_eq_true, beq_iff_eq] at e2
              exact e2.1.1
            have P := ps_setLc (X := X) (pos := lpos) (g.g.calm eh) hN hi hl sw (p1.1 eh) p2 p3 p4 p5 p6
            rw [eo] at P
            refine impPS P fun Dn σ H q => ?_
            have q2 := set_k q
            exact lc_ok (tD_of_tL q2)
          | mkl a =>
           cases a with
           | lc tg it cond elt =>
             cases eh : Γ.hot with
             | true =>
               refine lc_with g.g (snd it) (snd cond) (snd elt) h3 (fun st H s Cc cl fp => L2H.blkH X st H s (compEnvC s cl Cc X.env) fp) (fun st H s Cc cl fp => g.g.blkH st H s Cc cl fp) fun y tgx itx ifs s lpos own e eo p1 p2 p3 p4 p5 p6 => ?_
               subst e
               have hl : X.env.scope.names.lookup x = some .local := by
                 rw [g.g.sc]
                 unfold swB at e2
                 simp only [Bool.and_eq_true, beq_iff_eq] at e2
                 exact e2.1.1
               have P := L2H.ps_setLcH (X := X) (pos := lpos) (g.g.hotc eh) hN hi hl sw (p1.2 eh) p2 (fun st H cl Cc fp => p3 st H cl Cc fp) (fun st H cl Cc fp => p4 st H cl Cc fp) (fun st H cl Cc fp => p5 st H cl Cc fp) p6
               rw [eo] at P
               refine impPS P fun Dn σ H q => ?_
               have q2 := set_k q
               exact lc_ok (tL_of_mkl q2)
             | false =>
             refine lc_with g.g (snd it) (snd cond) (snd elt) h3 (fun st H s Cc cl fp => X.blk st H s (compEnvC s cl Cc X.env) fp) (fun st H s Cc cl fp => g.g.blk eh st H s Cc cl fp) fun y tgx itx ifs s lpos own e eo p1 p2 p3 p4 p5 p6 => ?_
             subst e
             have hl : X.env.scope.names.lookup x = some .local := by
               rw [g.g.sc]
               unfold swB at e2
               simp only [Bool.and_eq_true, beq_iff_eq] at e2
               exact e2.1.1
             have P := ps_setLc (X := X) (pos := lpos) (g.g.calm eh) hN hi hl sw (p1.1 eh) p2 p3 p4 p5 p6
             rw [eo] at P
             refine impPS P fun Dn σ H q => ?_
             have q2 := set_k q
             exact lc_ok (tL_of_mkl q2)
           | _ => cases h5
          | _ => cases h5
    all_goals cases h
  | .tset ts e, st, h => by
    unfold ckS at h
    split at h
    case h_1 es2 p k v pos =>
      obtain ⟨h, h3⟩ := and4 h
      obtain ⟨h1, h2⟩ := and4 h
      have hw : swappedStores [.Tuple es2 p k] v X.env = pure none := by
        split at h3
        · exact swR_ok g.g.sc (by rw [g.g.sc]; exact g.kd) (of_decide_eq_true h3) _ _ _ _
        · rename_i hn
          exact sw_none fun vs k2 p2 e => hn vs k2 p2 e
      refine impPS (ps_asg ((snd e).E g.g v h2) (pg_ok g.g (.tp ts) (.Tuple es2 p k) h1) (by unfold swapsWithSole; exact swap_tup) hw (by rfl)) fun Dn σ H q => ?_
      refine s1 q fun z ρ W d v k r rv h => ?_
      obtain ⟨ρ', hb, h⟩ := h.bind.opt k
      exact ⟨z, ρ, W, d, ρ', rfl, k, r, rv, hb, fun σ' r' _ => h.pure0 k σ' r'⟩
    all_goals cases h
  | .par is e, st, h => by
    unfold ckS at h
    split at h
    case h_1 es2 k p vs k2 p2 pos =>
      obtain ⟨h, h3⟩ := and4 h
      obtain ⟨h, h2⟩ := and4 h
      obtain ⟨h0, h1⟩ := and4 h
      split at h3
      · rename_i ns hns
        exact ps_parN g (by simpa using h0) h1 hns h3
      · cases h3
    all_goals cases h
  | .setix o i e, st, h => by
    unfold ckS at h
    split at h
    case h_1 p q sp v pos =>
      obtain ⟨h, h4⟩ := and4 h
      obtain ⟨h, h3⟩ := and4 h
      obtain ⟨h1, h2⟩ := and4 h
      refine impPS (ps_asg ((snd e).E g.g v h2) (pg_sub ((snd o).E g.g p h3) ((snd i).E g.g q h4) set_list (asg_sub h1)) (by unfold swapsWithSole; exact swap_sub) sw_sub (by rfl)) fun Dn σ H hq => ?_
      refine s1 hq fun z ρ W d v k r rv h => ?_
      refine ⟨z, ρ, W, rfl, k, r, h.bind.mono (fun d1 W1 k1 l1 h1 v1 rv1 => ?_) fun c xs W' k' l' q d hd => q σ d hd⟩
      refine ⟨z, ρ, W1, rfl, k1, r.le l1, h1.bind.mono (fun d2 W2 k2 l2 h2 v2 rv2 => ?_) fun c xs W' k' l' q d hd => q σ d hd⟩
      obtain ⟨n, a, xs, vs, i, j, W3, e1, e2, e3, e4, e5, k3, l3, e6, h3⟩ := store_ok k2 (rv1.le l2) rv2 ((rv.le l1).le l2) h2.bind
      exact ⟨a, vs, i, j, e1, e2, e3, e4, by rw [← e5]; exact h3.pure0 k3 σ ((((r.le l1).le l2).le l3))⟩
    all_goals cases h
  | .dset o i e, st, h => by
    unfold ckS at h
    split at h
    case h_1 p q sp v pos =>
      obtain ⟨h, h4⟩ := and4 h
      obtain ⟨h, h3⟩ := and4 h
      obtain ⟨h1, h2⟩ := and4 h
      refine impPS (ps_asg ((snd e).E g.g v h2) (pg_sub ((snd o).E g.g p h3) ((snd i).E g.g q h4) (set_dict (by have := g.g.room; omega)) (asg_sub h1)) (by unfold swapsWithSole; exact swap_sub) sw_sub (by rfl)) fun Dn σ H hq => ?_
      refine s1 hq fun z ρ W d v k r rv h => ?_
      refine ⟨z, ρ, W, rfl, k, r, h.bind.mono (fun d1 W1 k1 l1 h1 v1 rv1 => ?_) fun c xs W' k' l' q d hd => q σ d hd⟩
      refine ⟨z, ρ, W1, rfl, k1, r.le l1, h1.bind.mono (fun d2 W2 k2 l2 h2 v2 rv2 => ?_) fun c xs W' k' l' q d hd => q σ d hd⟩
      have h2 := h2.bind
      by_cases hq : ∃ ds, d2 = .tup ds
      · obtain ⟨ds, rfl⟩ := hq
        exact (show False from h2).elim
      · have eq : storeK d1 d2 d = storeD d1 d2 d := by
          unfold storeK
          cases d2 <;> first | rfl | exact absurd ⟨_, rfl⟩ hq
        rw [eq] at h2
        obtain ⟨a, W3, e1, k3, l3, h3, e2, _⟩ := dput_ok k2 (rv1.le l2) rv2 ((rv.le l1).le l2) h2
        exact ⟨a, W3.H, e1, e2 fun ds y => hq ⟨ds, y⟩, h3.pure0 k3 σ ((((r.le l1).le l2).le l3))⟩
    all_goals cases h
  | .dsetT o es e, st, h => by
    unfold ckS at h
    split at h
    case h_1 p xs kk tp sp v pos =>
      obtain ⟨h, h3⟩ := and4 h
      obtain ⟨h1, h2⟩ := and4 h
      refine impPS (ps_asg ((snd e).E g.g v h1) (pg_sub ((snd o).E g.g p h2) (pe_tup ((snd es).Es g.g xs h3)) (set_dict (by have := g.g.room; omega)) (asg_sub rfl)) (by unfold swapsWithSole; exact swap_sub) sw_sub (by rfl)) fun Dn σ H hq => ?_
      refine s1 hq fun z ρ W d v k r rv h => ?_
      refine ⟨z, ρ, W, rfl, k, r, h.bind.mono (fun d1 W1 k1 l1 h1 v1 rv1 => ?_) fun c xs W' k' l' q d hd => q σ d hd⟩
      refine ⟨z, ρ, W1, rfl, k1, r.le l1, h1.bind.mono (fun ds W2 k2 l2 h2 vs rvs => ?_) fun c xs W' k' l' q d hd => q σ d hd⟩
      have h2 := h2.bind
      unfold lenOk at h2
      rcases h2.ite with ⟨hl, h2⟩ | ⟨_, h2⟩
      · refine ⟨by rw [← rvs.len]; exact hl, fun pa hp => ?_⟩
        have h2 := (h2.pure0 k2).bind
        obtain ⟨k4, l4, f4⟩ := k2.new (o := .tup vs) hp
        obtain ⟨a, W3, e1, k3, l3, h3, _, e2⟩ := dput_ok k4 ((rv1.le l2).le l4) (Rp.tup (SqT.of f4) (rvs.le l4)) (((rv.le l1).le l2).le l4) (h2.at_ (W' := ⟨W2.m, W2.μ, upd W2.H pa (.tup vs)⟩) rfl l4)
        obtain ⟨b, e3, e5⟩ := e2 ds rfl
        cases e3
        exact ⟨a, W3.H, e1, e5 vs (rvs.le l4) upd_same, h3.pure0 k3 σ (((((r.le l1).le l2).le l4).le l3))⟩
      · exact h2.bad.elim
    all_goals cases h
  | .app o e, st, h => by
    unfold ckS at h
    split at h
    case h_1 p m apos x pos epos =>
      obtain ⟨h, h6⟩ := and4 h
      obtain ⟨h, h5⟩ := and4 h
      obtain ⟨h, h4⟩ := and4 h
      obtain ⟨h, h3⟩ := and4 h
      obtain ⟨h1, h2⟩ := and4 h
      cases of_decide_eq_true h1
      refine impPS (ps_expr (pe_bm PySem.F.plainAttrs_list PySem.F.slot_list_append PySem.F.type_list_append mt_append ((snd o).E g.g p h5) (pa_cons ((snd e).E g.g x h6) pa_nil (star_of h3)) (base_of h4) (by rw [star_of h3]; rfl) h2 (star_of h3)) (swap_none rfl _)) fun Dn σ H q => ?_
      show tD G Wx (ev C Kc o).e σ H fun x H1 => tyV X.K "list" x H1 ∧ tCons (tD G Wx (ev C Kc e).e) tNil σ H1 fun xs H2 => rAppend x xs H2 fun _ H3 => Dn.nx σ H3
      refine s1 q fun z ρ W d v k r rv h => ?_
      obtain ⟨a, xs, vs, rfl, q1, q2, h⟩ := seqL_ok k rv h.bind
      refine ⟨.inl ⟨rfl, vs, SqL.of q1⟩, z, ρ, W, rfl, k, r, h.bind.mono (fun d1 W1 k1 l1 h1 v1 rv1 => ?_) fun c xs W' k' l' q d hd => q σ d hd⟩
      obtain ⟨a2, us, W2, e1, e2, e3, e4, k2, l2, h2⟩ := app_ok1 k1 (rv.le l1) rv1 h1.bind
      cases e1
      exact ⟨a, us, v1, rfl, rfl, e2, e3, by rw [← e4]; exact h2.pure0 k2 σ ((r.le l1).le l2)⟩
    all_goals cases h
  | .raise c, st, h => by
    unfold ckS at h
    split at h
    case h_1 y p m j p2 pos rpos =>
      obtain ⟨h, h4⟩ := and4 h
      obtain ⟨h, h3⟩ := and4 h
      obtain ⟨h1, h2⟩ := and4 h
      have eh : Γ.hot = false := by simpa using h1
      obtain ⟨x1, x2, x3⟩ := g.g.exr _ _ (of_decide_eq_true h2)
      refine impPS (L2N.ps_raise (g.g.calm eh) g.g.tk (L2N.pmk_own PySem.F.excBase_ValueError x1 (g.g.exk _ _ _ (of_decide_eq_true h2)) x2 x3 (gl_of g.g.sc h3) (nm_of h4).1)) fun Dn σ H ⟨z, ρ, W, e, k, r, h⟩ => ?_
      subst e
      exact h W rfl k (Le.refl _ _) σ none rfl
    all_goals cases h
  | .expr e, st, h => by
    unfold ckS at h
    split at h
    case h_1 v pos =>
      obtain ⟨h1, h2⟩ := and4 h
      refine impPS (ps_expr ((snd e).E g.g v h2) (swap_none h1 _)) fun Dn σ H q => ?_
      exact s1 q fun z ρ W d v k r rv h => h.pure0 k σ r
    all_goals cases h
  | .ret e, st, h => by
    unfold ckS at h
    split at h
    case h_1 v pos =>
      refine impPS (ps_ret ((snd e).E g.g v h)) fun Dn σ H q => ?_
      exact s1 q fun z ρ W d v k r rv h => h.pure0 k v rv
    all_goals cases h
  | .ite c a b, st, h => by
    unfold ckS at h
    split at h
    case h_1 t p q pos =>
      obtain ⟨h, h3⟩ := and4 h
      obtain ⟨h1, h2⟩ := and4 h
      refine impPS (ps_if ((snd c).T g.g t h1) (pss_ok g a p h2) (pss_ok g b q h3)) fun Dn σ H q => ?_
      obtain ⟨z, ρ, W, e, k, rr, h⟩ := q
      refine ⟨z, ρ, W, e, k, rr, h.bind.mono (fun t W' k' l' q => ?_) fun c xs W' k' l' q d hd => q σ d hd⟩
      cases t with
      | true =>
        rw [if_pos rfl]
        rw [if_pos rfl] at q
        exact ⟨z, ρ, W', rfl, k', rr.le l', q⟩
      | false =>
        rw [if_neg Bool.false_ne_true]
        rw [if_neg Bool.false_ne_true] at q
        exact ⟨z, ρ, W', rfl, k', rr.le l', q⟩
    all_goals cases h
  | .for tg it b, st, h => by
    unfold ckS at h
    split at h
    case h_1 t i p pos =>
      obtain ⟨h, h4⟩ := and4 h
      obtain ⟨h, h3⟩ := and4 h
      obtain ⟨h, h2⟩ := and4 h
      obtain ⟨h0, h1⟩ := and4 h
      have eh : Γ.hot = false := by simpa using h0
      exact impPS (ps_for (g.po eh) (g.g.calm eh) (((snd it).I g.g t i h2).1 eh) (pg_ok g.g tg t h1) (pss_ok g b p h4) (set_of h3)) fun Dn σ H q => for_ok q
    all_goals cases h
  | .while n c b, st, h => by
    unfold ckS at h
    split at h
    case h_1 t p pos =>
      obtain ⟨h, h2⟩ := and4 h
      obtain ⟨h0, h1⟩ := and4 h
      have eh : Γ.hot = false := by simpa using h0
      exact impPS (ps_while (g.po eh) ((snd c).T g.g t h1) (pss_ok g b p h2)) fun Dn σ H q => while_ok q
    all_goals cases h
  | .never, st, h => impPS ps_never fun Dn σ H ⟨z, ρ, W, e, k, r, h⟩ => h.bad
  | .pass, st, h => by
    unfold ckS at h
    split at h
    case h_1 => exact impPS ps_pass fun Dn σ H ⟨z, ρ, W, e, k, r, h⟩ => by subst e; exact (show Wp G z W (M.pure (Out.nx ρ)) _ _ from h).pure0 k σ r
    all_goals cases h
  | .brk, st, h => by
    unfold ckS at h
    split at h
    case h_1 => exact impPS ps_break fun Dn σ H ⟨z, ρ, W, e, k, r, h⟩ => by subst e; exact (show Wp G z W (M.pure (Out.bk ρ)) _ _ from h).pure0 k σ r
    all_goals cases h
  | .cont, st, h => by
    unfold ckS at h
    split at h
    case h_1 => exact impPS ps_continue fun Dn σ H ⟨z, ρ, W, e, k, r, h⟩ => by subst e; exact (show Wp G z W (M.pure (Out.ct ρ)) _ _ from h).pure0 k σ r
    all_goals cases h
  | .nil, st, h => nomatch (show false = true from h)
  | .cons _ _, st, h => nomatch (show false = true from h)
theorem pss_ok (g : GoodS G C Kc Γ X Wx) : ∀ (s : Sz) (sts : List Stmt), ckB Γ s sts = true → PSs X sts (tS G Wx (evS C Kc s))
  | .nil, [], _ => impPSs pss_nil fun Dn σ H ⟨z, ρ, W, e, k, r, h⟩ => by subst e; exact (show Wp G z W (M.pure (Out.nx ρ)) _ _ from h).pure0 k σ r
  | .never, sts, _ => impPSs pss_never fun Dn σ H ⟨z, ρ, W, e, k, r, h⟩ => h.bad
  | .cons s ss, st :: sts, h => by
    obtain ⟨h1, h2⟩ := and4 (show (ckS Γ s st && ckB Γ ss sts) = true from h)
    refine impPSs (pss_cons (ps_ok g s st h1) (pss_ok g ss sts h2)) fun Dn σ H q => ?_
    obtain ⟨z, ρ, W, e, k, rr, h⟩ := q
    have h : Wp G z W ((evS C Kc s ρ).bind fun o => match o with
      | .nx ρ1 => evS C Kc ss ρ1
      | o => M.pure o) (outW G z Dn) (exS G z Wx) := h
    refine ⟨z, ρ, W, e, k, rr, h.bind.mono (fun o W' k' l' h => ?_) fun _ _ _ _ _ q => q⟩
    cases o with
    | nx ρ1 => exact fun σ' r' => ⟨z, ρ1, W', rfl, k', r', h⟩
    | rt v => exact (show Wp G z W' (M.pure (Out.rt v)) _ _ from h).pure0 k'
    | bk ρ1 => exact (show Wp G z W' (M.pure (Out.bk ρ1)) _ _ from h).pure0 k'
    | ct ρ1 => exact (show Wp G z W' (M.pure (Out.ct ρ1)) _ _ from h).pure0 k'
  | .nil, _ :: _, h => by cases h
  | .cons _ _, [], h => by cases h
  | .set _ _, sts, h => by cases sts <;> cases h
  | .tset _ _, sts, h => by cases sts <;> cases h
  | .par _ _, sts, h => by cases sts <;> cases h
  | .setix _ _ _, sts, h => by cases sts <;> cases h
  | .dset _ _ _, sts, h => by cases sts <;> cases h
  | .dsetT _ _ _, sts, h => by cases sts <;> cases h
  | .app _ _, sts, h => by cases sts <;> cases h
  | .raise _, sts, h => by cases sts <;> cases h
  | .expr _, sts, h => by cases sts <;> cases h
  | .ret _, sts, h => by cases sts <;> cases h
  | .ite _ _ _, sts, h => by cases sts <;> cases h
  | .for _ _ _, sts, h => by cases sts <;> cases h
  | .while _ _ _, sts, h => by cases sts <;> cases h
  | .pass, sts, h => by cases sts <;> cases h
  | .brk, sts, h => by cases sts <;> cases h
  | .cont, sts, h => by cases sts <;> cases h
end
end
end DL
/-! DL12: defs; the cup and its rolls -/
namespace DL
open PySem PyProof.Rows L2 PySem.Spec

/-- a def of the text: its name, where it is written, its names by slot, its parameters, its body in own syntax -/
structure Dr where
  name : Str
  st : Stmt
  N : List Str
  ps : List Str
  body : Sz
  lam : Bool
def Dr.df (d : Dr) : Df := ⟨d.N.length, d.ps.length, d.body⟩
def fnsOf (ds : List Dr) : List (Str × Nat) := ds.map fun d => (d.name, d.ps.length)
def fnScB (N ps : List Str) (sc : Scope) : Bool :=
  decide (sc.kind = .function) && !sc.isCoroutine && !sc.isGenerator && decide N.Nodup && decide (N.take ps.length = ps) &&
    (ps.all fun x => match sc.names.lookup x with
      | some .local => true
      | some .cell => true
      | _ => false) && sc.names.all fun y => !decide (y.2 = .free)
theorem fnSc_ok {N ps : List Str} {sc : Scope} (h : fnScB N ps sc = true) : FnScope N ps sc := by
  unfold fnScB at h
  simp only [Bool.and_eq_true, decide_eq_true_eq, Bool.not_eq_true', List.all_eq_true, decide_eq_false_iff_not] at h
  obtain ⟨⟨⟨⟨⟨⟨h1, h2⟩, h3⟩, h4⟩, h5⟩, h6⟩, h7⟩ := h
  refine ⟨h1, h2, h3, h4, h5, fun x hx => ?_, h7⟩
  have q := h6 x hx
  split at q
  · exact .inl (by assumption)
  · exact .inr (by assumption)
  · cases q
/-- what all defs of a text share: defs, constants, gcd, defs that try (with their numbers), classes of exceptions -/
structure Sh where
  fns : List (Str × Nat)
  cns : List Str
  gcd : Bool
  ers : List (Nat × Str)
  exs : List (Str × Bool)
def Sh.cx (h : Sh) (N : List Str) (sc : Scope) (lam : Bool) : Cxt := ⟨N, sc, none, h.fns, h.cns, h.gcd, false, lam, h.ers, h.exs⟩
def ckDr (h : Sh) (d : Dr) : Bool := ckB (h.cx d.N (defScope d.st) d.lam) d.body (defBody d.st) && fnScB d.N d.ps (defScope d.st)

/-- nothing is promised -/
theorem fn_bad {P : Program} {w : World} {K : PySem.W.Frag} {mg : Str → Option Value} {base : Heap} {CX : CXT} {G : Gx} {k n : Nat} {f : Addr} {fd : FuncData} {ps : List Str} {c : List D → M D} (hc : ∀ ds, c ds = M.bad) : FnOk P w K mg base CX k f fd ps (spD G n c) := by
  have no : ∀ vs H Q E, ¬ spD G n c vs H Q E := by
    rintro vs H Q E ⟨z, ds, W, e, _, _, _, h⟩
    rw [hc] at h
    exact h.bad
  exact ⟨fun vs H Q E h => absurd h (no vs H Q E), fun A outer s H args us vs Q E _ _ _ _ h => absurd h (no vs H Q E)⟩
theorem start_env {G : Gx} {z : List Addr} {W : Wd} {ds : List D} {vs : List V} (r : RpsW G z W ds vs) (N : List Str) : EnvR G z W (ds.map some ++ List.replicate (N.length - ds.length) none) (L2.start N vs) := by
  have hl := r.len
  refine ⟨by unfold L2.start; rw [List.length_append, List.length_append, List.length_map, List.length_map, List.length_replicate, List.length_replicate, hl], fun i d e => ?_⟩
  by_cases hi : i < ds.length
  · rw [List.getElem?_append_left (by rw [List.length_map]; exact hi), List.getElem?_map] at e
    cases q : ds[i]? with
    | none => rw [q] at e; cases e
    | some d' =>
      rw [q] at e
      cases e
      obtain ⟨v, h1, h2⟩ := r.get q
      refine ⟨v, ?_, h2⟩
      unfold L2.start
      rw [List.getElem?_append_left (by rw [List.length_map, ← hl]; exact hi), List.getElem?_map, h1]
      rfl
  · rw [List.getElem?_append_right (by rw [List.length_map]; omega)] at e
    have := List.mem_of_getElem? e
    have := List.eq_of_mem_replicate this
    cases this
/-- the facts of the classes of exceptions -/
structure ExcF (G : Gx) (K : PySem.W.Frag) (mg : Str → Option Value) (exs : List (Str × Bool)) : Prop where
  mg : ∀ j x f, exs[j]? = some (x, f) → mg x = some (.ref (G.ca j))
  mak : ∀ j x, exs[j]? = some (x, true) → PySem.W.excIn K (G.ca j) He.veBase "ValueError.__new__" = true ∧ PySem.W.keepIn K (.ref (G.ca j)) = true ∧ PySem.W.subIn K (.ref (G.ca j)) (.type "BaseException") = some true ∧ PySem.W.typeIn K (.ref (G.ca j)) = some (.type "type")
  is : ∀ j x, exs[j]? = some (x, true) → ExcC K (G.ca j)
  kit : ∀ j x q y f, exs[j]? = some (x, true) → exs[q]? = some (y, f) → PySem.W.kitOne K (.ref (G.ca j)) (.ref (G.ca q)) = some (j == q)
/-- a checked def does what its body's run says -/
theorem def_ok {P : Program} {w : World} {K : PySem.W.Frag} {mg : Str → Option Value} {base : Heap} {G : Gx} {C : Nat → List D → M D} {Kc : Nat → D} {n : Nat} {h : Sh} {d : Dr} {f : Addr} {fd : FuncData}
    (hK : K = G.K) (F : FunD K d.name d.name (defArgs d.st) (defBody d.st) (defScope d.st) [] [] f fd) (hc : ckDr h d = true)
    (bi : ∀ x ∈ builtins, mg x = none) (con : ∀ k x, h.cns[k]? = some x → ∃ v u, mg x = some u ∧ RelV v u ∧ ∀ F m, Rp G F m (Kc k) v) (hg : h.gcd = true → mg "gcd" = some (.builtin "math.gcd"))
    (hf : ∀ k x n, h.fns[k]? = some (x, n) → mg x = some (.ref (G.fa k)) ∧ PySem.W.keepIn K (.ref (G.fa k)) = true) (hn : h.fns.length = G.nf)
    (ar : ∀ k x n, h.fns[k]? = some (x, n) → ∀ (z : List Addr) (W : Wd) (ds : List D) (P : D → Wd → Prop) (Ex : Nat → List D → Wd → Prop), Wp G z W (C k ds) P Ex → ds.length = n)
    (calls : ∀ k x m, h.fns[k]? = some (x, m) → ∃ fd ps, Binds K fd ps [] ∧ FnOk P w K mg base (L2N.CX P w) n (G.fa k) fd ps (spD G m (C k)))
    (xf : ExcF G K mg h.exs) (er : ∀ k x, h.ers.lookup k = some x → ErrK G P w K mg base (C k) x)
    (hl : d.lam = true → ∀ c, fd.code = .ref c → ∃ T, LamX.TabB base mg c T ∧ (T, d.name ++ ".<locals>." ++ "<lambda>") ∈ G.T ∧ ∀ p ∈ G.T, p.1 = T → p.2 = d.name ++ ".<locals>." ++ "<lambda>") :
    FnOk P w K mg base (L2N.CX P w) (n + 3) f fd d.ps (spD G d.ps.length fun as => if as.length = d.ps.length then run C Kc d.N.length d.body as else M.bad) := by
  obtain ⟨h1, h2⟩ := and4 hc
  have S := fnSc_ok h2
  obtain ⟨oc, od, dV, kV, doc, pm, an, cdv, ct, osl, rfl, lk, hcd, _, _⟩ := F.ex
  refine fn_of (k := n + 2) lk hcd S (fun vs H Q E h => ?_) (fun A outer s H vs Q E hr h => ?_)
  · obtain ⟨z, ds, W, e, hl, _⟩ := h
    exact hl
  · obtain ⟨z, ds, W, e, hl2, k, r, hw⟩ := h
    have g : Good G C Kc (h.cx d.N (defScope d.st) d.lam) (cxOf (L2N.CX P w) P w K mg base d.N d.name (defScope d.st) f cdv A outer s H E) (fun cls dd _ H => E cls dd H) := {
      K := hK
      N := rfl
      nd := S.nd
      sc := rfl
      calm := fun _ => rfl
      hotc := fun e => nomatch (show false = true from e)
      fn := rfl
      tk := L2N.takes_of rfl rfl rfl rfl
      room := hr.units
      bi := bi
      con := con
      gcd := hg
      fns := hf
      arity := ar
      nf := fun k x m e => by
        rw [← hn]
        exact (List.getElem?_eq_some_iff.mp e).1
      fnr := fun _ k hk => by
        rw [← hn] at hk
        exact ⟨_, _, List.getElem?_eq_getElem hk⟩
      calls := fun _ => ⟨n, by
        split
        · exact hr
        · exact hr.mono (by omega), calls⟩
      lamc := fun e => by
        obtain ⟨c, rfl⟩ := He.codeIn_ref hcd
        obtain ⟨T, t1, t2, t3⟩ := hl e c rfl
        exact ⟨c, T, rfl, t1, t2, t3⟩
      errs := er
      exk := xf.mg
      exr := fun j x e => ⟨(xf.mak j x e).1, (xf.mak j x e).2.1, raises_own (xf.mak j x e).2.2.1 (xf.mak j x e).2.2.2⟩
      hx := fun e => nomatch (show false = true from e) }
    have gs : GoodS G C Kc (h.cx d.N (defScope d.st) d.lam) (cxOf (L2N.CX P w) P w K mg base d.N d.name (defScope d.st) f cdv A outer s H E) (fun cls dd _ H => E cls dd H) := ⟨g, fun _ => passes_of rfl, S.kind⟩
    refine ⟨_, pss_ok gs d.body _ h1, ?_⟩
    rcases hw.ite with ⟨q, hw⟩ | ⟨_, hw⟩
    case inr => exact hw.bad.elim
    refine ⟨z, ds.map some ++ List.replicate (d.N.length - ds.length) none, W, e, k, start_env r d.N, ?_⟩
    unfold run at hw
    refine hw.bind.mono (fun o W' k' l' h => ?_) fun c xs W' k' l' q σ dd hd => q dd hd
    cases o with
    | nx ρ => exact fun σ _ => (show Wp G z W' (M.pure D.non) _ _ from h).pure0 k' _ .non
    | rt v => exact (show Wp G z W' (M.pure v) _ _ from h).pure0 k'
    | bk ρ => exact (show Wp G z W' M.bad _ _ from h).bad.elim
    | ct ρ => exact (show Wp G z W' M.bad _ _ from h).bad.elim

/-! ### what is let go -/
section
variable {G : Gx}
theorem D.noRefs_iff {n : Nat} : ∀ {ds : List D}, D.noRefs n ds = true ↔ ∀ d ∈ ds, D.noRef n d = true
  | [] => by simp [D.noRefs]
  | x :: xs => by simp [D.noRefs, D.noRefs_iff]
mutual
theorem Rp.cut {F F' : Hp} {m : List Addr} {n : Nat} (e : Ext F F') : ∀ {d : D} {v : V}, Rp G F m d v → D.noRef n d = true → Rp G F' (m.take n) d v
  | _, _, .non, _ => .non
  | _, _, .bl b, _ => .bl b
  | _, _, .int i, _ => .int i
  | _, _, .str x, _ => .str x
  | _, _, .tup h r, q => .tup (e.sqT h) (Rps.cut e r q)
  | _, _, .lst h r, q => .lst (e _ _ h (fun _ q => nomatch q)) (Rps.cut e r q)
  | _, _, .ref (n := k) h, q => .ref (by
      have q : Nat.blt k n = true := q
      rw [List.getElem?_take_of_lt (Nat.le_of_ble_eq_true q)]
      exact h)
  | _, _, .fn k h, _ => .fn k h
  | _, _, .cls k, _ => .cls k
  | _, _, .ty n, _ => .ty n
  | _, _, .scr h, _ => .scr (e.sqL h)
  | _, _, .exn h, _ => .exn h
theorem Rps.cut {F F' : Hp} {m : List Addr} {n : Nat} (e : Ext F F') : ∀ {ds : List D} {vs : List V}, Rps G F m ds vs → D.noRefs n ds = true → Rps G F' (m.take n) ds vs
  | _, _, .nil, _ => .nil
  | _, _, .cons h t, q => .cons (Rp.cut e h (Bool.and_eq_true_iff.mp q).1) (Rps.cut e t (Bool.and_eq_true_iff.mp q).2)
end
theorem take_get {α : Type} {l : List α} {n i : Nat} {a : α} (h : (l.take n)[i]? = some a) : i < n ∧ l[i]? = some a := by
  rw [List.getElem?_take] at h
  split at h
  · exact ⟨by assumption, h⟩
  · cases h
theorem paired_mem {α β : Type} {R R' : α → β → Prop} {c : α → Bool} (h : ∀ a b, R a b → c a = true → R' a b) : ∀ {xs : List α} {ys : List β}, Paired R xs ys → xs.all c = true → Paired R' xs ys
  | _, _, .nil, _ => .nil
  | _, _, .cons r t, q => by
    simp only [List.all_cons, Bool.and_eq_true] at q
    exact .cons (h _ _ r q.1) (paired_mem h t q.2)
theorem cut_ok {z : List Addr} {W W' : Wd} (k0 : Mok G z W) (k : Mok G z W') (l : Le z W W') (hq : (W'.μ.take W.μ.length).all (Ob.noRef W.μ.length) = true) :
    Mok G z ⟨W'.m.take W.μ.length, W'.μ.take W.μ.length, W'.H⟩ ∧ Le z W ⟨W'.m.take W.μ.length, W'.μ.take W.μ.length, W'.H⟩ ∧ Ext (W'.F z) (Wd.F z ⟨W'.m.take W.μ.length, W'.μ.take W.μ.length, W'.H⟩) := by
  obtain ⟨n, hn⟩ : ∃ n, n = W.μ.length := ⟨_, rfl⟩
  rw [← hn] at hq ⊢
  have lv : ∀ b, Wd.lv ⟨W'.m.take n, W'.μ.take n, W'.H⟩ b → W'.lv b := fun b ⟨i, h1, h2⟩ => by
    obtain ⟨q1, q2⟩ := take_get h2
    refine ⟨i, ?_, q2⟩
    unfold live at h1 ⊢
    rw [show (Wd.μ ⟨W'.m.take n, W'.μ.take n, W'.H⟩)[i]? = W'.μ[i]? from List.getElem?_take_of_lt q1] at h1
    exact h1
  have lvi : ∀ i, live (W'.μ.take n) i → live W'.μ i := fun i h1 => by
    unfold live at h1 ⊢
    cases q : (W'.μ.take n)[i]? with
    | none => rw [q] at h1; exact h1.elim
    | some o =>
      rw [q] at h1
      rw [(take_get q).2]
      exact h1
  have ext : Ext (W'.F z) (Wd.F z ⟨W'.m.take n, W'.μ.take n, W'.H⟩) := fun b o e _ => by
    obtain ⟨h1, h2, h3⟩ := Wd.F_some e
    exact Wd.F_of h1 h2 fun q => h3 (lv b q)
  refine ⟨{ len := ?_, inj := fun i j a h1 h2 e1 e2 => k.inj i j a (lvi i h1) (lvi j h2) (take_get e1).2 (take_get e2).2, zl := fun b hb q => k.zl b hb (lv b q), zs := k.zs, tabs := k.tabs, ob := fun i a o e1 e2 => ?_ }, ⟨fun i a e => ?_, l.ext.trans ext, l.zk⟩, ext⟩
  · show (W'.m.take n).length = (W'.μ.take n).length
    rw [List.length_take, List.length_take, k.len]
  · have q : Ob.noRef n o = true := List.all_eq_true.mp hq o (List.mem_of_getElem? e2)
    have h := k.ob i a o (take_get e1).2 (take_get e2).2
    cases o with
    | lst xs =>
      obtain ⟨vs, h1, h2⟩ := h
      exact ⟨vs, h1, Rps.cut ext h2 q⟩
    | fro d => exact Rp.cut ext (show Rp G _ _ d (.ref a) from h) q
    | cup => exact h
    | dK kvs =>
      obtain ⟨ks, h1, h2⟩ := h
      exact ⟨ks, h1, paired_mem (fun p q r c => by
        obtain ⟨c1, c2⟩ := Bool.and_eq_true_iff.mp c
        exact ⟨Rp.cut ext r.1 c1, Rp.cut ext r.2 c2⟩) h2 q⟩
    | dT kvs =>
      obtain ⟨ks, h1, h2⟩ := h
      exact ⟨ks, h1, paired_mem (fun p q r c => by
        obtain ⟨c1, c2⟩ := Bool.and_eq_true_iff.mp c
        obtain ⟨⟨ds, e1, e2⟩, r2⟩ := r
        rw [e1] at c1
        exact ⟨⟨ds, e1, Rps.cut ext e2 c1⟩, Rp.cut ext r2 c2⟩) h2 q⟩
  · show (W'.m.take n)[i]? = some a
    have : i < n := by
      rw [hn, ← k0.len]
      exact (List.getElem?_eq_some_iff.mp e).1
    rw [List.getElem?_take_of_lt this]
    exact l.pre i a e
end
/-! ### what is known of a caught exception -/
abbrev Gx.at_ (G : Gx) (a : Addr) : Gx := { G with xa := some a }
section
variable {G : Gx} {F : Hp} {m : List Addr} {a : Addr}
mutual
theorem Rp.up (hx : G.xa = none) : ∀ {d : D} {v : V}, Rp G F m d v → Rp (G.at_ a) F m d v
  | _, _, .non => .non
  | _, _, .bl b => .bl b
  | _, _, .int i => .int i
  | _, _, .str x => .str x
  | _, _, .tup h r => .tup h (Rps.up hx r)
  | _, _, .lst h r => .lst h (Rps.up hx r)
  | _, _, .ref h => .ref h
  | _, _, .fn k h => .fn (G := G.at_ a) k h
  | _, _, .cls k => .cls (G := G.at_ a) k
  | _, _, .ty n => .ty n
  | _, _, .scr h => .scr h
  | _, _, .exn h => by rw [hx] at h; cases h
theorem Rps.up (hx : G.xa = none) : ∀ {ds : List D} {vs : List V}, Rps G F m ds vs → Rps (G.at_ a) F m ds vs
  | _, _, .nil => .nil
  | _, _, .cons h t => .cons (Rp.up hx h) (Rps.up hx t)
end
mutual
theorem Rp.down {n : Nat} : ∀ {d : D} {v : V}, Rp (G.at_ a) F m d v → D.noRef n d = true → Rp G F m d v
  | _, _, .non, _ => .non
  | _, _, .bl b, _ => .bl b
  | _, _, .int i, _ => .int i
  | _, _, .str x, _ => .str x
  | _, _, .tup h r, q => .tup h (Rps.down r q)
  | _, _, .lst h r, q => .lst h (Rps.down r q)
  | _, _, .ref h, _ => .ref h
  | _, _, .fn k h, _ => .fn (G := G) k h
  | _, _, .cls k, _ => .cls (G := G) k
  | _, _, .ty n, _ => .ty n
  | _, _, .scr h, _ => .scr h
  | _, _, .exn h, q => by cases q
theorem Rps.down {n : Nat} : ∀ {ds : List D} {vs : List V}, Rps (G.at_ a) F m ds vs → D.noRefs n ds = true → Rps G F m ds vs
  | _, _, .nil, _ => .nil
  | _, _, .cons h t, q => .cons (Rp.down h (Bool.and_eq_true_iff.mp q).1) (Rps.down t (Bool.and_eq_true_iff.mp q).2)
end
theorem Mok.up {z : List Addr} {W : Wd} (k : Mok G z W) (hx : G.xa = none) : Mok (G.at_ a) z W := ⟨k.len, k.inj, k.zl, k.zs, k.tabs, fun i b o e1 e2 => by
  have h := k.ob i b o e1 e2
  cases o with
  | lst xs => obtain ⟨vs, h1, h2⟩ := h; exact ⟨vs, h1, h2.up hx⟩
  | dK kvs => obtain ⟨ks, h1, h2⟩ := h; exact ⟨ks, h1, Paired.mapP h2 fun p q r => ⟨r.1.up hx, r.2.up hx⟩⟩
  | dT kvs => obtain ⟨ks, h1, h2⟩ := h; exact ⟨ks, h1, Paired.mapP h2 fun p q r => ⟨let ⟨ds, e1, e2⟩ := r.1; ⟨ds, e1, e2.up hx⟩, r.2.up hx⟩⟩
  | fro d => exact Rp.up hx (show Rp G _ _ d (.ref b) from h)
  | cup => exact h⟩
theorem Mok.down {z : List Addr} {W : Wd} {n : Nat} (k : Mok (G.at_ a) z W) (hq : W.μ.all (Ob.noRef n) = true) : Mok G z W := ⟨k.len, k.inj, k.zl, k.zs, k.tabs, fun i b o e1 e2 => by
  have h := k.ob i b o e1 e2
  have q : Ob.noRef n o = true := List.all_eq_true.mp hq o (List.mem_of_getElem? e2)
  cases o with
  | lst xs => obtain ⟨vs, h1, h2⟩ := h; exact ⟨vs, h1, h2.down q⟩
  | dK kvs =>
    obtain ⟨ks, h1, h2⟩ := h
    exact ⟨ks, h1, paired_mem (fun p q r c => by
      obtain ⟨c1, c2⟩ := Bool.and_eq_true_iff.mp c
      exact ⟨r.1.down c1, r.2.down c2⟩) h2 q⟩
  | dT kvs =>
    obtain ⟨ks, h1, h2⟩ := h
    exact ⟨ks, h1, paired_mem (fun p q r c => by
      obtain ⟨c1, c2⟩ := Bool.and_eq_true_iff.mp c
      obtain ⟨⟨ds, e1, e2⟩, r2⟩ := r
      rw [e1] at c1
      exact ⟨⟨ds, e1, Rps.down e2 c1⟩, r2.down c2⟩) h2 q⟩
  | fro d => exact Rp.down (show Rp (G.at_ a) _ _ d (.ref b) from h) q
  | cup => exact h⟩
end
/-! ### defs that try what they got -/
/-- name, where it is written, its names, the slot of the exception's name, the class it takes, the suite, the answer where nothing was raised -/
structure Er where
  name : Str
  st : Stmt
  N : List Str
  i : Nat
  ge : Str
  body : Sz
  ret : Str
def erCx (exs : List (Str × Bool)) (e : Er) : Cxt := ⟨e.N, defScope e.st, none, [], [], false, true, false, [], exs⟩
def noC : Nat → List D → M D := fun _ _ => M.bad
def outStr : Out → M D
  | .rt (.str x) => M.pure (.str x)
  | _ => M.bad
def Er.env (e : Er) : Env := (List.replicate e.N.length none).set e.i (some .exn)
def Er.run (e : Er) (c : Nat) : Env → M Out := evS noC (fun _ => .int c) e.body
/-- what it answers: behind the end [], behind an exception [.int c] -/
def errC (exs : List (Str × Bool)) (e : Er) : List D → M D
  | [] => M.pure (.str e.ret)
  | [.int c] => if 0 ≤ c ∧ (match exs[c.toNat]? with | some (_, f) => f | none => false) = true then (e.run c.toNat e.env).bind outStr else M.bad
  | _ => M.bad
def ckEr (exs : List (Str × Bool)) (e : Er) : Bool := match defBody e.st with
  | [.Try [.Expr (.Call (.Name a _) [] [] _) _] [.ExceptHandler (some (.Name ge _)) (some n) (b0 :: su) _] [] [] _, .Return (some (.Constant (.str r) _ _)) _] =>
    decide (e.N[0]? = some a) && decide (e.N[e.i]? = some n) && decide (ge = e.ge) && glB (defScope e.st) ge && okNm ge && okNm a && visB (defScope e.st) a && decide ((defScope e.st).names.lookup n = some .local) && decide (r = e.ret) &&
      ckB (erCx exs e) e.body (b0 :: su) && fnScB e.N [a] (defScope e.st)
  | _ => false
theorem vis_sc {sc : Scope} {x : Str} (g : visB sc x = true) : Vis sc x := by
  unfold visB at g
  split at g
  · exact .inl (by assumption)
  · exact .inr (.inl (by assumption))
  · exact .inr (.inr (by assumption))
  · cases g
theorem outW_rt {G : Gx} {z : List Addr} {Dn Dn' : Ends} {d : D} {W : Wd} (h : Dn.rt = Dn'.rt) (q : outW G z Dn (.rt d) W) : outW G z Dn' (.rt d) W := by
  unfold outW at q ⊢
  rw [← h]
  exact q
/-- what is wished of the suite -/
def SuW (G : Gx) (exs : List (Str × Bool)) (e : Er) (Q : VK) : XK := fun cls d H' => ∃ c x, exs[c]? = some (x, true) ∧ cls = .ref (G.ca c) ∧ d = none ∧ ∀ (a : Addr) (σ : L2.St) (Dn : Ends), σ.length = e.N.length → Dn.rt = Q → tS (G.at_ a) W0 (e.run c) Dn (σ.set e.i (some (.ref a))) H'
theorem er_sem {G : Gx} {exs : List (Str × Bool)} {e : Er} (hx : G.xa = none) (z : List Addr) (W1 : Wd) (m : M D) (Q : VK) (Ex : Nat → List D → Wd → Prop) (k1 : Mok G z W1) (h : Wp G z W1 (errM m (errC exs e)) (Wt G z Q) Ex)
    (E : XK) (Q' : VK) (hE : ∀ cls d H', SuW G exs e Q cls d H' → E cls d H') (hQ : ∀ v H', Q (.str e.ret) H' → Q' v H') : Wp G z W1 m (Wt G z Q') (fun c xs W' => ∀ d, ExR G z xs d W' → E (.ref (G.ca c)) d W'.H) := by
  refine T.good_mono (fun r q => ?_) (T.good_bind (show ((m W1.μ).bind _).good _ from h))
  cases r with
  | bad => exact (show False from q)
  | ok d μ' =>
    intro W' e' k' l' v _
    have q : (errEnd W1.μ.length (.ok (.str e.ret) μ')).good _ := q
    unfold errEnd at q
    dsimp only at q
    split at q
    · rename_i c
      obtain ⟨g1, g2, g3⟩ := cut_ok k1 k' l' (by rw [e']; exact c)
      exact hQ v _ ((show ∀ W2 : Wd, W2.μ = μ'.take W1.μ.length → Mok G z W2 → Le z W1 W2 → Wt G z Q (.str e.ret) W2 from q) ⟨W'.m.take W1.μ.length, W'.μ.take W1.μ.length, W'.H⟩ (by show W'.μ.take _ = _; rw [e']) g1 g2 _ (.str _))
    · exact (show False from q).elim
  | exc c xs μ' =>
    intro W' e' k' l' d hd
    cases xs with
    | cons x xs => exact (show False from q).elim
    | nil =>
      cases (show d = none from hd)
      have q : ((errC exs e [.int c] μ').bind (errEnd W1.μ.length)).good _ := q
      have hc : ∃ x, exs[c]? = some (x, true) := by
        cases ec : exs[c]? with
        | none =>
          have : errC exs e [.int c] = M.bad := if_neg (fun y => by
            have y2 := y.2
            rw [Int.toNat_natCast, ec] at y2
            cases y2)
          rw [this] at q
          exact (show False from q).elim
        | some p =>
          obtain ⟨x, f⟩ := p
          cases f with
          | true => exact ⟨x, rfl⟩
          | false =>
            have : errC exs e [.int c] = M.bad := if_neg (fun y => by
              have y2 := y.2
              rw [Int.toNat_natCast, ec] at y2
              cases y2)
            rw [this] at q
            exact (show False from q).elim
      obtain ⟨x, ec⟩ := hc
      have e2 : errC exs e [.int c] = (e.run c e.env).bind outStr := by
        have : errC exs e [.int c] = (e.run (c : Int).toNat e.env).bind outStr := if_pos ⟨Int.natCast_nonneg c, by rw [Int.toNat_natCast, ec]⟩
        rw [this, Int.toNat_natCast]
      rw [e2] at q
      refine hE _ _ _ ⟨c, x, ec, rfl, rfl, fun a σ Dn hl hr => ?_⟩
      have kU : Mok (G.at_ a) z W' := k'.up hx
      refine ⟨z, e.env, W', rfl, kU, ⟨by unfold Er.env; rw [List.length_set, List.length_set, List.length_replicate, hl], fun i d hi => ?_⟩, ?_⟩
      · unfold Er.env at hi
        by_cases hie : e.i = i
        · subst hie
          by_cases hlt : e.i < e.N.length
          · rw [List.getElem?_set_self (by rw [List.length_replicate]; exact hlt)] at hi
            cases hi
            exact ⟨.ref a, List.getElem?_set_self (by rw [hl]; exact hlt), .exn (G := G.at_ a) rfl⟩
          · rw [List.getElem?_eq_none (by rw [List.length_set, List.length_replicate]; omega)] at hi
            cases hi
        · rw [List.getElem?_set_ne hie] at hi
          have := List.eq_of_mem_replicate (List.mem_of_getElem? hi)
          cases this
      · have q := T.good_bind (T.good_bind (show ((((e.run c e.env) μ').bind (M.andThen outStr)).bind (errEnd W1.μ.length)).good _ from q))
        show ((e.run c e.env) W'.μ).good _
        rw [e']
        refine T.good_mono (fun r q => ?_) q
        cases r with
        | bad => exact (show False from q)
        | exc c2 xs2 μ2 => exact (show False from q).elim
        | ok o μ2 =>
          intro W2 e3 k2 l2
          cases o with
          | rt d =>
            cases d with
            | str x =>
              have q : (errEnd W1.μ.length (.ok (.str x) μ2)).good _ := q
              unfold errEnd at q
              dsimp only at q
              split at q
              · rename_i cc
                obtain ⟨g1, g2, g3⟩ := cut_ok (k1.up hx) k2 (l'.trans l2) (by rw [e3]; exact cc)
                have g4 : Mok G z ⟨W2.m.take W1.μ.length, W2.μ.take W1.μ.length, W2.H⟩ := Mok.down g1 (n := W1.μ.length) (by rw [e3]; exact cc)
                intro v hv
                cases hv
                rw [hr]
                exact (show ∀ W3 : Wd, W3.μ = μ2.take W1.μ.length → Mok G z W3 → Le z W1 W3 → Wt G z Q (.str x) W3 from q) ⟨W2.m.take W1.μ.length, W2.μ.take W1.μ.length, W2.H⟩ (by show W2.μ.take _ = _; rw [e3]) g4 g2 _ (.str _)
              · exact (show False from q).elim
            | _ => exact (show False from q).elim
          | _ => exact (show False from q).elim
theorem er_ok {P : Program} {w : World} {K : PySem.W.Frag} {mg : Str → Option Value} {base : Heap} {G : Gx} {exs : List (Str × Bool)} {e : Er} {g GE : Addr} {fd : FuncData} (hx : G.xa = none) (hK : K = G.K)
    (F : FunD K e.name e.name (defArgs e.st) (defBody e.st) (defScope e.st) [] [] g fd) (hc : ckEr exs e = true) (hg : mg e.name = some (.ref g)) (hb : ∀ a, e.N[0]? = some a → Binds K fd [a] []) (bi : ∀ x ∈ builtins, mg x = none)
    (xf : ExcF G K mg exs) (hge : mg e.ge = some (.ref GE)) (hm : ∀ j x, exs[j]? = some (x, true) → PySem.W.exmOne K (.ref (G.ca j)) (.ref GE) = some true) : ErrK G P w K mg base (errC exs e) e.name := by
  obtain ⟨oc, od, dV, kV, doc, pm, an, cdv, ct, osl, rfl, lk, hcd, _, _⟩ := F.ex
  unfold ckEr at hc
  split at hc
  case h_2 => cases hc
  rename_i a p1 p2 p3 ge p4 n b0 su p5 p6 r j p7 p8 eb
  obtain ⟨hc, c11⟩ := and4 hc
  obtain ⟨hc, c10⟩ := and4 hc
  obtain ⟨hc, c9⟩ := and4 hc
  obtain ⟨hc, c8⟩ := and4 hc
  obtain ⟨hc, c7⟩ := and4 hc
  obtain ⟨hc, c6⟩ := and4 hc
  obtain ⟨hc, c5⟩ := and4 hc
  obtain ⟨hc, c4⟩ := and4 hc
  obtain ⟨hc, c3⟩ := and4 hc
  obtain ⟨c1, c2⟩ := and4 hc
  have c1 := of_decide_eq_true c1
  have c2 := of_decide_eq_true c2
  have c3 := of_decide_eq_true c3
  have c8 := of_decide_eq_true c8
  have c9 := of_decide_eq_true c9
  subst c3 c9
  have S := fnSc_ok c11
  have hvis : Vis (defScope e.st) a := vis_sc c7
  refine ⟨a, g, _, _, _, dV, kV, doc, pm, cdv, ct, oc, an, od, osl, e.N, fun tl H Q => ∀ (E : XK) (Q' : VK), (∀ cls d H', SuW G exs e Q cls d H' → E cls d H') → (∀ v H', Q (.str e.ret) H' → Q' v H') → tl E H Q', hg, F.kp, lk, hcd, hb a c1, S, c1, hvis, c6, ?_, ?_⟩
  · rintro X k q rfl rfl rfl rfl rfl f c' s H Q tl hr act hco hTT
    rw [eb]
    have hsu : ∀ (a1 : Addr) (oe : Obj) (cls : Value) (d : Option Addr) (pn : List (Addr × Obj)), L2N.Zn cls d oe → (∃ vs, oe.data = .fields vs) → PSs ((LX.gvX X e.N e.name (defScope e.st) g cdv s H).nox.suite a1 ((a1, oe) :: pn)) (b0 :: su)
        (fun Dn σ H => ∃ c x, exs[c]? = some (x, true) ∧ cls = .ref (G.ca c) ∧ d = none ∧ tS (G.at_ a1) W0 (e.run c) Dn σ H) := by
      intro a1 oe cls d pn hz hv
      constructor
      rintro pins s1 σ1 H1 Dn I ⟨c, x, hcx, rfl, rfl, ht⟩
      have gd : Good (G.at_ a1) noC (fun _ => .int c) (erCx exs e) ((LX.gvX X e.N e.name (defScope e.st) g cdv s H).nox.suite a1 ((a1, oe) :: pn)) W0 := {
        K := hK
        N := rfl
        nd := S.nd
        sc := rfl
        calm := fun e => nomatch (show true = false from e)
        hotc := fun _ => by
          obtain ⟨vs, hv⟩ := hv
          exact ⟨(a1, oe), ⟨rfl, vs, hv, hz.2.2 vs hv⟩, List.mem_cons_self⟩
        fn := rfl
        tk := takesN0
        room := hr.units
        bi := bi
        con := fun k x e => nomatch (show none = some x from e)
        gcd := fun e => nomatch (show false = true from e)
        fns := fun k x n e => nomatch (show none = some (x, n) from e)
        arity := fun k x n e => nomatch (show none = some (x, n) from e)
        nf := fun k x n e => nomatch (show none = some (x, n) from e)
        fnr := fun e => nomatch (show true = false from e)
        calls := fun e => nomatch (show true = false from e)
        lamc := fun e => nomatch (show false = true from e)
        errs := fun k x e => nomatch (show none = some x from e)
        exk := xf.mg
        exr := fun j x e => ⟨(xf.mak j x e).1, (xf.mak j x e).2.1, raises_own (xf.mak j x e).2.2.1 (xf.mak j x e).2.2.2⟩
        hx := fun _ _ => ⟨a1, G.ca c, c, rfl, rfl, call_isE (xf.is c x hcx) hz.zc hv, fun q y f e => xf.kit c x q y f hcx e⟩ }
      have gs : GoodS (G.at_ a1) noC (fun _ => .int c) (erCx exs e) ((LX.gvX X e.N e.name (defScope e.st) g cdv s H).nox.suite a1 ((a1, oe) :: pn)) W0 := ⟨gd, (fun e => nomatch (show true = false from e)), S.kind⟩
      exact (pss_ok gs e.body _ c10).run pins s1 σ1 H1 Dn I ht
    have hgl : Gl (LX.gvX X e.N e.name (defScope e.st) g cdv s H).nox e.ge := gl_of (X := (LX.gvX X e.N e.name (defScope e.st) g cdv s H).nox) rfl c4
    have hloc : (LX.gvX X e.N e.name (defScope e.st) g cdv s H).nox.env.kindOf n = some .local := c8
    refine ⟨_, pss_cons (L2N.ps_try_as (X := (LX.gvX X e.N e.name (defScope e.st) g cdv s H).nox) (c := .ref GE) (i := e.i) (Wout := W0)
      (tb := fun W Dn σ H => σ[0]? = some (some (.ref f)) ∧ H c' = some (LamX.CodeO c' q) ∧ tl (fun cls d H' => W cls d σ H') H fun _ H' => Dn.nx σ H')
      rfl rfl S.nd c2 hloc ⟨hgl, (nm_of c5).1, .inl hge⟩ takesN0 (fun W pn xe tk _ => ?_) hsu) (pss_one (ps_ret pe_str)), ?_⟩
    · exact pss_one (ps_expr (act W pn xe p1 p2 tk) (swap_none rfl _))
    · refine ⟨?_, hco, hTT _ _ (fun cls d H' hs => ?_) (fun v H' hq => hq)⟩
      · show (L2.start e.N [V.ref f])[0]? = _
        unfold L2.start
        rfl
      · obtain ⟨c, x, hcx, rfl, rfl, hs⟩ := hs
        refine ⟨true, hm c x hcx, fun _ a1 _ => ⟨c, x, hcx, rfl, rfl, hs a1 _ _ ?_ rfl⟩, fun y => nomatch y⟩
        show (L2.start e.N [V.ref f]).length = _
        have : 0 < e.N.length := (List.getElem?_eq_some_iff.mp c1).1
        unfold L2.start
        rw [List.length_append, List.length_map, List.length_replicate]
        show 1 + (e.N.length - 1) = _
        omega
  · exact fun z W1 m tl Q Ex k1 h htl E Q' hE hQ => htl E Q' (er_sem hx z W1 m Q Ex k1 h E Q' hE hQ)
/-! ### the cup -/
def primCup : List D → M D
  | [.scr ns] => if ns.length ≤ 63 then alloc .cup else M.bad
  | _ => M.bad
def primRoll : List D → M D
  | [.ref n, .int many] => fun μ => match μ[n]? with
    | some .cup => if 0 < many ∧ many.natAbs.log2 < 9000 then .roll many.toNat fun r => .ret (.ok (.int (r : Int)) μ) else .ret .bad
    | _ => .ret .bad
  | _ => M.bad
section
variable {G : Gx} {z : List Addr}
/-- what refs hold is told otherwise -/
theorem relabel_ok {m : List Addr} {μ μ' : Mem} {H : Hp} (k : Mok G z ⟨m, μ, H⟩) (hl : μ'.length = μ.length) (hv : ∀ i, live μ' i ↔ live μ i)
    (hob : ∀ (i : Nat) (a : Addr) (o : Ob), m[i]? = some a → μ'[i]? = some o → (∀ o', μ[i]? = some o' → ObR G (Wd.F z ⟨m, μ, H⟩) m H a o') → ObR G (Wd.F z ⟨m, μ, H⟩) m H a o) :
    Mok G z ⟨m, μ', H⟩ ∧ Wd.F z ⟨m, μ', H⟩ = Wd.F z ⟨m, μ, H⟩ := by
  have lv : ∀ b, Wd.lv ⟨m, μ', H⟩ b ↔ Wd.lv ⟨m, μ, H⟩ b := fun b => ⟨fun ⟨i, q1, q2⟩ => ⟨i, (hv i).mp q1, q2⟩, fun ⟨i, q1, q2⟩ => ⟨i, (hv i).mpr q1, q2⟩⟩
  have eF : Wd.F z ⟨m, μ', H⟩ = Wd.F z ⟨m, μ, H⟩ := by
    funext b
    unfold Wd.F
    by_cases q : b ∈ z ∨ Wd.lv ⟨m, μ, H⟩ b
    · rw [if_pos q, if_pos (q.imp id (lv b).mpr)]
    · rw [if_neg q, if_neg (fun q' => q (q'.imp id (lv b).mp))]
  refine ⟨⟨k.len.trans hl.symm, fun i j a h1 h2 => k.inj i j a ((hv i).mp h1) ((hv j).mp h2), fun b hb q => k.zl b hb ((lv b).mp q), k.zs, k.tabs, fun i a o h1 h2 => ?_⟩, eF⟩
  rw [eF]
  exact hob i a o h1 h2 fun o' h3 => k.ob i a o' h1 h3
theorem live_cup {μ : Mem} {n i : Nat} {o o' : Ob} (h : μ[n]? = some o) (ho : ∀ d, o ≠ .fro d) (ho' : ∀ d, o' ≠ .fro d) : live (μ.set n o') i ↔ live μ i :=
  live_set (by
    unfold live
    rw [h]
    cases o with
    | fro d => exact absurd rfl (ho d)
    | _ => trivial) ho'
theorem to_cup {m : List Addr} {μ : Mem} {H : Hp} {n : Nat} {x y : Int} (k : Mok G z ⟨m, μ, H⟩) (h : μ[n]? = some (.lst [.int x, .int y])) (h1 : 0 ≤ x) (h2 : 0 ≤ y) (h3 : y < 2 ^ 32) : Mok G z ⟨m, μ.set n .cup, H⟩ ∧ Wd.F z ⟨m, μ.set n .cup, H⟩ = Wd.F z ⟨m, μ, H⟩ := by
  refine relabel_ok k (List.length_set ..) (fun i => live_cup h (fun _ q => nomatch q) fun _ q => nomatch q) fun i a o e1 e2 ho => ?_
  by_cases hi : n = i
  · subst hi
    rw [List.getElem?_set_self (List.getElem?_eq_some_iff.mp h).1] at e2
    cases e2
    obtain ⟨vs, q1, q2⟩ := ho _ h
    match q2 with
    | .cons (.int _) (.cons (.int _) .nil) => exact ⟨x, y, q1, h1, h2, h3⟩
  · rw [List.getElem?_set_ne hi] at e2
    exact ho o e2
theorem of_cup {m : List Addr} {μ : Mem} {H : Hp} {n : Nat} (k : Mok G z ⟨m, μ, H⟩) (h : μ[n]? = some .cup) : ∃ x y : Int, 0 ≤ x ∧ 0 ≤ y ∧ y < 2 ^ 32 ∧ Mok G z ⟨m, μ.set n (.lst [.int x, .int y]), H⟩ ∧ Wd.F z ⟨m, μ.set n (.lst [.int x, .int y]), H⟩ = Wd.F z ⟨m, μ, H⟩ := by
  obtain ⟨a, ha⟩ : ∃ a, m[n]? = some a := by
    have : n < m.length := by
      rw [k.len]
      exact (List.getElem?_eq_some_iff.mp h).1
    exact ⟨m[n], List.getElem?_eq_getElem this⟩
  obtain ⟨x, y, q1, q2, q3, q4⟩ := k.ob n a _ ha h
  refine ⟨x, y, q2, q3, q4, ?_⟩
  refine relabel_ok k (List.length_set ..) (fun i => live_cup h (fun _ q => nomatch q) fun _ q => nomatch q) fun i a o e1 e2 ho => ?_
  by_cases hi : n = i
  · subst hi
    rw [List.getElem?_set_self (List.getElem?_eq_some_iff.mp h).1] at e2
    cases e2
    rw [show m[n]? = some _ from ha] at e1
    cases e1
    exact ⟨_, q1, .cons (.int _) (.cons (.int _) .nil)⟩
  · rw [List.getElem?_set_ne hi] at e2
    exact ho o e2
end
/-- cup(script), as it is written -/
def cupBody : Sz :=
  .cons (.set 1 (.bf .abs (.cons (.idx (.bin .add (.bf .list (.cons (.var 0) .nil)) (.lst (.cons (.int 0) .nil))) (.int 0)) .nil)))
  (.cons (.ret (.mkl (.lst (.cons (.ife (.cmp .ge (.var 1) (.bin .pow (.int 10) (.int 18))) (.bin .fdiv (.var 1) (.int 113)) (.int 0))
    (.cons (.bin .add (.bin .mod (.bf .int (.cons (.bin .add (.bin .mul (.var 1) (.int 367)) (.int 5303)) .nil)) (.int 1984129399)) (.int 227)) .nil))))) .nil)
/-- roll(cup, many), as it is written -/
def rollBody : Sz :=
  let c0 : Ez := .idx (.var 0) (.int 0)
  let c1 : Ez := .idx (.var 0) (.int 1)
  .cons (.ite (.cmp .gt c0 (.int 0))
    (.cons (.set 2 (.bin .mod (.bf .int (.cons c0 .nil)) (.var 1))) (.cons (.setix (.var 0) (.int 0) (.bin .fdiv c0 (.var 1))) (.cons (.ret (.var 2)) .nil))) .nil)
  (.cons (.setix (.var 0) (.int 1) (.bin .mod (.bf .int (.cons (.bin .add (.bin .mul c1 (.int 30011)) (.int 9001)) .nil)) (.int 2147483543)))
  (.cons (.set 3 (.bin .mod (.bf .int (.cons (.bin .mul c1 (.bin .add c1 (.int 293))) .nil)) (.int 2147483587)))
  (.cons (.ret (.bin .mod (.bf .int (.cons (.bin .fdiv (.var 3) (.int 883)) .nil)) (.var 1))) .nil)))
theorem bind_ok {α β : Type} {m : M α} {f : α → M β} {μ μ' : Mem} {a : α} (h : m μ = .ret (.ok a μ')) : M.bind m f μ = f a μ' := by
  unfold M.bind
  rw [h]
  rfl
theorem bin_add (i j : Int) : binop .add (.int i) (.int j) = M.pure (.int (i + j)) := rfl
theorem bin_mulR {i j : Int} (h : -(2 ^ 64) < j ∧ j < 2 ^ 64) : binop .mul (.int i) (.int j) = M.pure (.int (i * j)) := by
  refine if_pos ?_
  simp only [Bool.or_eq_true, Bool.and_eq_true, decide_eq_true_eq]
  exact .inr h
theorem bin_mod {i j : Int} (h : j ≠ 0) : binop .mod (.int i) (.int j) = M.pure (.int (i.fmod j)) := if_pos h
theorem bin_fdiv {i j : Int} (h : 0 < j) (hl : j.natAbs.log2 < 9000) : binop .fdiv (.int i) (.int j) = M.pure (.int (i.fdiv j)) := by
  show (if j ≠ 0 ∧ j.natAbs < 1073741824 then M.pure (D.int (i.fdiv j)) else if j ≠ 0 ∧ j.natAbs.log2 < 9000 then M.pure (D.int (i.fdiv j)) else M.bad) = _
  by_cases q : j ≠ 0 ∧ j.natAbs < 1073741824
  · rw [if_pos q]
  · rw [if_neg q, if_pos ⟨by omega, hl⟩]
section
variable {C : Nat → List D → M D} {Kc : Nat → D}
set_option maxHeartbeats 400000 in
theorem roll_run {n : Nat} {many x y : Int} {μ : Mem} (h : μ[n]? = some (.lst [.int x, .int y])) (hx : 0 ≤ x) (hy : 0 ≤ y) (hy2 : y < 2 ^ 32) (hm : 0 < many) (hl : many.natAbs.log2 < 9000) :
    ∃ (r : Nat) (x' y' : Int), r < many.toNat ∧ 0 ≤ x' ∧ 0 ≤ y' ∧ y' < 2 ^ 32 ∧ run C Kc 4 rollBody [.ref n, .int many] μ = .ret (.ok (.int (r : Int)) (μ.set n (.lst [.int x', .int y']))) := by
  have hn : n < μ.length := (List.getElem?_eq_some_iff.mp h).1
  have hm0 : many ≠ 0 := by omega
  by_cases h0 : 0 < x
  · refine ⟨(x.fmod many).toNat, x.fdiv many, y, ?_, ?_, hy, hy2, ?_⟩
    · have := Int.fmod_nonneg_of_pos x hm
      have := Int.fmod_lt_of_pos x hm
      omega
    · exact Int.fdiv_nonneg hx (Int.le_of_lt hm)
    · have e : ((x.fmod many).toNat : Int) = x.fmod many := Int.toNat_of_nonneg (Int.fmod_nonneg_of_pos x hm)
      rw [e]
      simp [run, rollBody, evS, ev, Fn.ofE, M.bind, T.bind, M.andThen, M.pure, get, res, seqA, seqL, idxop, cmpop, truth, bfop, bin_mod hm0, bin_fdiv hm hl, storeL, setE, M.opt, atI, ixN, h, h0]
  · obtain ⟨y1, e1⟩ : ∃ y1 : Int, y1 = (y * 30011 + 9001).fmod 2147483543 := ⟨_, rfl⟩
    have b1 : 0 ≤ y1 ∧ y1 < 2147483543 := by
      rw [e1]
      exact ⟨Int.fmod_nonneg_of_pos _ (by decide), Int.fmod_lt_of_pos _ (by decide)⟩
    obtain ⟨d, e2⟩ : ∃ d : Int, d = (y1 * (y1 + 293)).fmod 2147483587 := ⟨_, rfl⟩
    obtain ⟨r, e3⟩ : ∃ r : Int, r = (d.fdiv 883).fmod many := ⟨_, rfl⟩
    have b3 : 0 ≤ r ∧ r < many := by
      rw [e3]
      exact ⟨Int.fmod_nonneg_of_pos _ hm, Int.fmod_lt_of_pos _ hm⟩
    refine ⟨r.toNat, x, y1, by omega, hx, b1.1, by omega, ?_⟩
    have e : ((r.toNat : Nat) : Int) = r := Int.toNat_of_nonneg b3.1
    rw [e, e3, e2, e1]
    have m1 : binop .mul (.int y) (.int 30011) = M.pure (.int (y * 30011)) := bin_mulR (by decide)
    have m2 : binop .mul (.int y1) (.int (y1 + 293)) = M.pure (.int (y1 * (y1 + 293))) := bin_mulR (by omega)
    rw [e1] at m2
    have m3 : ∀ i : Int, binop .mod (.int i) (.int 2147483543) = M.pure (.int (i.fmod 2147483543)) := fun i => bin_mod (by decide)
    have m4 : ∀ i : Int, binop .mod (.int i) (.int 2147483587) = M.pure (.int (i.fmod 2147483587)) := fun i => bin_mod (by decide)
    have m5 : ∀ i : Int, binop .fdiv (.int i) (.int 883) = M.pure (.int (i.fdiv 883)) := fun i => bin_fdiv (by decide) (by rw [show (883 : Int).natAbs = 883 from rfl]; exact Nat.lt_of_le_of_lt (Nat.log2_le_self 883) (by decide))
    have hx0 : decide (0 < x) = false := decide_eq_false h0
    simp [run, rollBody, evS, ev, Fn.ofE, M.bind, T.bind, M.andThen, M.pure, get, res, seqA, seqL, idxop, cmpop, truth, bfop, bin_add, bin_mod hm0, storeL, setE, M.opt, atI, ixN, h, hx0, m1, m2, m3, m4, m5, List.getElem?_set_self hn]
theorem cup_run {ns : List Int} {μ : Mem} (hn : ns.length ≤ 63) : ∃ x y : Int, 0 ≤ x ∧ 0 ≤ y ∧ y < 2 ^ 32 ∧ run C Kc 2 cupBody [.scr ns] μ = .ret (.ok (.ref μ.length) (μ ++ [.lst [.int x, .int y]])) := by
  obtain ⟨c, hc⟩ : ∃ c : Int, c = ns.headD 0 := ⟨_, rfl⟩
  obtain ⟨a, ha⟩ : ∃ a : Int, a = if c < 0 then -c else c := ⟨_, rfl⟩
  have a0 : 0 ≤ a := by
    rw [ha]
    split <;> omega
  have e1 : binop .add (.lst (ns.map D.int)) (.lst [.int 0]) = M.pure (.lst (ns.map D.int ++ [.int 0])) := by
    show M.bind (M.bind (seqL (.lst (ns.map D.int))) fun xs => M.bind (seqL (.lst [D.int 0])) fun ys => if xs.length + ys.length ≤ sizeLine then M.pure (xs ++ ys) else M.bad) (fun xs => M.pure (D.lst xs)) = _
    funext μ
    have q : (ns.map D.int).length + [D.int 0].length ≤ sizeLine := by
      rw [List.length_map]
      show ns.length + 1 ≤ sizeLine
      rw [sizeLine_eq]
      omega
    simp only [M.bind, seqL, T.bind, M.andThen, if_pos q, M.pure]
  have e2 : idxop (.lst (ns.map D.int ++ [.int 0])) (.int 0) = M.pure (.int c) := by
    funext μ
    have q : L2.atI (ns.map D.int ++ [D.int 0]) 0 = some (.int c) := by
      rw [hc]
      refine L2.atI_nat (j := 0) ?_
      cases ns with
      | nil => rfl
      | cons n r => rfl
    simp only [idxop, M.bind, seqA, seqL, T.bind, M.andThen, q, M.opt, M.pure]
  have e3 : binop .pow (.int 10) (.int 18) = M.pure (.int 1000000000000000000) := rfl
  have m1 : binop .mul (.int a) (.int 367) = M.pure (.int (a * 367)) := bin_mulR (by decide)
  have m3 : ∀ i : Int, binop .mod (.int i) (.int 1984129399) = M.pure (.int (i.fmod 1984129399)) := fun i => bin_mod (by decide)
  have m5 : ∀ i : Int, binop .fdiv (.int i) (.int 113) = M.pure (.int (i.fdiv 113)) := fun i => bin_fdiv (by decide) (by rw [show (113 : Int).natAbs = 113 from rfl]; exact Nat.lt_of_le_of_lt (Nat.log2_le_self 113) (by decide))
  have b1 := Int.fmod_nonneg_of_pos (a * 367 + 5303) (b := 1984129399) (by decide)
  have b2 := Int.fmod_lt_of_pos (a * 367 + 5303) (b := 1984129399) (by decide)
  have l2 : ∀ x y : Int, lenOk [D.int x, D.int y] = M.pure [D.int x, D.int y] := fun x y => rfl
  have l1 : lenOk [D.int 0] = M.pure [D.int 0] := rfl
  by_cases h : 1000000000000000000 ≤ a
  · refine ⟨a.fdiv 113, (a * 367 + 5303).fmod 1984129399 + 227, Int.fdiv_nonneg a0 (by decide), by omega, by omega, ?_⟩
    have hd : decide ((1000000000000000000 : Int) ≤ a) = true := decide_eq_true h
    simp [run, cupBody, evS, ev, Fn.ofE, Fn.ofL, M.bind, T.bind, M.andThen, M.pure, get, res, cmpop, truth, bfop, bfL, bin_add, setE, e1, e2, e3, m1, m3, m5, ← ha, hd, l1, l2, alloc]
  · refine ⟨0, (a * 367 + 5303).fmod 1984129399 + 227, Int.le_refl 0, by omega, by omega, ?_⟩
    have hd : decide ((1000000000000000000 : Int) ≤ a) = false := decide_eq_false h
    simp [run, cupBody, evS, ev, Fn.ofE, Fn.ofL, M.bind, T.bind, M.andThen, M.pure, get, res, cmpop, truth, bfop, bfL, bin_add, setE, e1, e2, e3, m1, m3, m5, ← ha, hd, l1, l2, alloc]
end
end DL
/-! DL13: the table of a text's defs; the law's end -/
namespace DL
open PySem PyProof.Rows L2 PySem.Spec
section
variable {G : Gx} {C : Nat → List D → M D} {Kc : Nat → D}
/-- the cup's def does what primCup says -/
theorem cup_imp (vs : List V) (H : Hp) (Q : VK) (E : XK) (h : spD G 1 primCup vs H Q E) : spD G 1 (fun as => if as.length = 1 then run C Kc 2 cupBody as else M.bad) vs H Q E := by
  obtain ⟨z, ds, W, e, hl, k, r, h⟩ := h
  unfold primCup at h
  split at h
  case h_2 => exact h.bad.elim
  rename_i ns
  rcases h.ite with ⟨hn, h⟩ | ⟨_, h⟩
  case inr => exact h.bad.elim
  refine ⟨z, [.scr ns], W, e, hl, k, r, ?_⟩
  obtain ⟨x, y, h1, h2, h3, hr⟩ := cup_run (C := C) (Kc := Kc) (μ := W.μ) hn
  show Wp G z W (run C Kc 2 cupBody [.scr ns]) _ _
  unfold Wp
  rw [hr]
  intro W' e' k' l'
  have hm : W'.μ[W.μ.length]? = some (.lst [.int x, .int y]) := by
    rw [e']
    simp
  obtain ⟨m, μ', H'⟩ := W'
  obtain ⟨q1, q2⟩ := to_cup k' hm h1 h2 h3
  have em : μ'.set W.μ.length .cup = W.μ ++ [.cup] := by
    rw [show μ' = _ from e']
    simp
  have := h ⟨m, μ'.set W.μ.length .cup, H'⟩ em q1 ⟨l'.pre, by rw [q2]; exact l'.ext, l'.zk⟩
  intro v hv
  refine this v ?_
  show Rp G (Wd.F z ⟨m, μ'.set W.μ.length .cup, H'⟩) m _ v
  rw [q2]
  exact hv
theorem set_self {α : Type} {l : List α} {n : Nat} {a b : α} (h : l[n]? = some a) : (l.set n b).set n a = l := by
  rw [List.set_set]
  obtain ⟨h1, h2⟩ := List.getElem?_eq_some_iff.mp h
  rw [← h2]
  exact List.set_getElem_self h1
theorem roll_imp (vs : List V) (H : Hp) (Q : VK) (E : XK) (h : spD G 2 primRoll vs H Q E) : spD G 2 (fun as => if as.length = 2 then run C Kc 4 rollBody as else M.bad) vs H Q E := by
  obtain ⟨z, ds, W, e, hl, k, r, h⟩ := h
  unfold primRoll at h
  split at h
  case h_2 => exact h.bad.elim
  rename_i n many
  obtain ⟨hc, hm, h⟩ : W.μ[n]? = some .cup ∧ (0 < many ∧ many.natAbs.log2 < 9000) ∧ Wp G z W (fun μ => .roll many.toNat fun r => .ret (.ok (.int (r : Int)) μ)) (Wt G z Q) fun c xs W' => ∀ (d : Option Addr), ExR G z xs d W' → E (Value.ref (G.ca c)) d W'.H := by
    unfold Wp at h ⊢
    dsimp only at h ⊢
    cases q : W.μ[n]? with
    | none =>
      rw [q] at h
      exact h.elim
    | some o =>
      rw [q] at h
      cases o with
      | cup =>
        by_cases q2 : 0 < many ∧ many.natAbs.log2 < 9000
        · exact ⟨rfl, q2, by simpa only [if_pos q2] using h⟩
        · simp only [if_neg q2] at h
          exact h.elim
      | _ => exact h.elim
  obtain ⟨x, y, q1, q2, q3, q4, q5⟩ := of_cup (m := W.m) (H := W.H) k hc
  have hn : n < W.μ.length := (List.getElem?_eq_some_iff.mp hc).1
  have hx : (W.μ.set n (.lst [.int x, .int y]))[n]? = some (.lst [.int x, .int y]) := List.getElem?_set_self hn
  obtain ⟨s, x', y', hs, p1, p2, p3, hr⟩ := roll_run (C := C) (Kc := Kc) hx q1 q2 q3 hm.1 hm.2
  refine ⟨z, [.ref n, .int many], ⟨W.m, W.μ.set n (.lst [.int x, .int y]), W.H⟩, e, hl, q4, ?_, ?_⟩
  · show Rps G (Wd.F z ⟨W.m, W.μ.set n (.lst [.int x, .int y]), W.H⟩) W.m _ vs
    rw [q5]
    exact r
  show Wp G z ⟨W.m, W.μ.set n (.lst [.int x, .int y]), W.H⟩ (run C Kc 4 rollBody [.ref n, .int many]) _ _
  unfold Wp
  show (run C Kc 4 rollBody [.ref n, .int many] (W.μ.set n (.lst [.int x, .int y]))).good _
  rw [hr]
  intro W' e' k' l'
  obtain ⟨m, μ', H'⟩ := W'
  have e2 : μ' = W.μ.set n (.lst [.int x', .int y']) := by
    rw [show μ' = _ from e', List.set_set]
  have hm' : μ'[n]? = some (.lst [.int x', .int y']) := by
    rw [e2]
    exact List.getElem?_set_self hn
  obtain ⟨t1, t2⟩ := to_cup k' hm' p1 p2 p3
  have em : μ'.set n .cup = W.μ := by
    rw [e2]
    exact set_self hc
  have := h s hs ⟨m, μ'.set n .cup, H'⟩ em t1 ⟨l'.pre, by rw [t2]; exact q5 ▸ l'.ext, l'.zk⟩
  intro v hv
  refine this v ?_
  show Rp G (Wd.F z ⟨m, μ'.set n .cup, H'⟩) m _ v
  rw [t2]
  exact hv
end
section
variable {G : Gx}
theorem pop_imp {n : Nat} {p : List D → Prop} [DecidablePred p] {f : List D → M D} (vs : List V) (H : Hp) (Q : VK) (E : XK) (h : spD G n (fun as => if p as then popM (f as) else M.bad) vs H Q E) : spD G n (fun as => if p as then f as else M.bad) vs H Q E := by
  obtain ⟨z, ds, W, e, hl, k, r, h⟩ := h
  refine ⟨z, ds, W, e, hl, k, r, ?_⟩
  rcases h.ite with ⟨hp, h⟩ | ⟨_, h⟩
  case inr => exact h.bad.elim
  show Wp G z W (if p ds then f ds else M.bad) _ _
  rw [if_pos hp]
  have h : ((f ds W.μ).bind _).good _ := h
  refine DL.T.good_mono (fun q hq => ?_) (DL.T.good_bind h)
  cases q with
  | bad => exact hq
  | exc c xs μ' => exact hq
  | ok a μ' =>
    intro W' e' k' l'
    dsimp only at hq
    by_cases c : (a.noRef W.μ.length && (μ'.take W.μ.length).all (Ob.noRef W.μ.length)) = true
    · rw [if_pos c] at hq
      obtain ⟨c1, c2⟩ := Bool.and_eq_true_iff.mp c
      obtain ⟨g1, g2, g3⟩ := cut_ok k k' l' (by rw [e']; exact c2)
      intro v hv
      exact hq ⟨W'.m.take W.μ.length, W'.μ.take W.μ.length, W'.H⟩ (by show W'.μ.take _ = _; rw [e']) g1 g2 v (Rp.cut g3 hv c1)
    · rw [if_neg c] at hq
      exact hq W' e' k' l'
end
/-- a text: defs, classes of exceptions (which are raised), defs that try, the places of the cup and of the roll -/
structure Tx where
  ds : List Dr
  exs : List (Str × Bool)
  es : List Er
  c : Nat
  r : Nat
/-- the numbers of defs that try begin here -/
def ek : Nat := 100000
/-- the prims of a text -/
def Tx.prim (t : Tx) : Nat → Option (List D → M D) := fun k => if k = t.c then some primCup else if k = t.r then some primRoll else if ek ≤ k then (t.es[k - ek]?).map (errC t.exs) else none
abbrev tabF (Kc : Nat → D) (t : Tx) (n : Nat) : Nat → List D → M D := callF Kc (t.ds.map Dr.df) t.prim n
def ersFrom (i : Nat) : List Er → List (Nat × Str)
  | [] => []
  | e :: es => (i, e.name) :: ersFrom (i + 1) es
theorem ers_at : ∀ {es : List Er} {i k : Nat} {x : Str}, (ersFrom i es).lookup k = some x → ∃ e, i ≤ k ∧ es[k - i]? = some e ∧ e.name = x
  | [], i, k, x, h => nomatch h
  | e :: es, i, k, x, h => by
    unfold ersFrom at h
    rw [List.lookup_cons] at h
    cases q : (k == i) with
    | true =>
      rw [q] at h
      cases h
      have : k = i := beq_iff_eq.mp q
      subst this
      exact ⟨e, Nat.le_refl _, by rw [Nat.sub_self]; rfl, rfl⟩
    | false =>
      rw [q] at h
      obtain ⟨e2, h1, h2, h3⟩ := ers_at h
      refine ⟨e2, by omega, ?_, h3⟩
      rw [show k - i = (k - (i + 1)) + 1 from by omega]
      exact h2
def Tx.sh (t : Tx) (cns : List Str) (gcd : Bool) : Sh := ⟨fnsOf t.ds, cns, gcd, ersFrom ek t.es, t.exs⟩
theorem fns_at {ds : List Dr} {k : Nat} {x : Str} {n : Nat} (h : (fnsOf ds)[k]? = some (x, n)) : ∃ d, ds[k]? = some d ∧ d.name = x ∧ d.ps.length = n := by
  unfold fnsOf at h
  rw [List.getElem?_map] at h
  cases e : ds[k]? with
  | none => rw [e] at h; cases h
  | some d =>
    rw [e] at h
    cases h
    exact ⟨d, rfl, rfl, rfl⟩
theorem callF_prim {Kc : Nat → D} {ds : List Df} {p : Nat → Option (List D → M D)} {n k : Nat} {f : List D → M D} (h : p k = some f) : callF Kc ds p (n + 1) k = f := by
  funext as
  rw [callF, h]
theorem callF_at {Kc : Nat → D} {ds : List Df} {p : Nat → Option (List D → M D)} {n k : Nat} {d : Df} (h : p k = none) (hd : ds[k]? = some d) : callF Kc ds p (n + 1) k = fun as => if as.length = d.pars then popM (run (callF Kc ds p n) Kc d.names d.body as) else M.bad := by
  funext as
  rw [callF, h]
  simp only [hd]
structure TabOk (t : Tx) (cns : List Str) (gcd : Bool) : Prop where
  ck : ∀ d ∈ t.ds, ckDr (t.sh cns gcd) d = true
  ce : ∀ e ∈ t.es, ckEr t.exs e = true
  cup : ∀ d, t.ds[t.c]? = some d → d.N.length = 2 ∧ d.ps.length = 1 ∧ d.body = cupBody
  roll : ∀ d, t.ds[t.r]? = some d → d.N.length = 4 ∧ d.ps.length = 2 ∧ d.body = rollBody
  ne : t.c ≠ t.r
  small : t.ds.length ≤ ek ∧ t.c < ek ∧ t.r < ek
theorem prim_c {t : Tx} {n : Nat} {Kc : Nat → D} : tabF Kc t (n + 1) t.c = primCup := callF_prim (if_pos rfl)
theorem prim_r {t : Tx} {n : Nat} {Kc : Nat → D} {cns : List Str} {gcd : Bool} (T : TabOk t cns gcd) : tabF Kc t (n + 1) t.r = primRoll := callF_prim (by
  unfold Tx.prim
  rw [if_neg (Ne.symm T.ne), if_pos rfl])
theorem prim_e {t : Tx} {n k : Nat} {Kc : Nat → D} {cns : List Str} {gcd : Bool} {e : Er} (T : TabOk t cns gcd) (h : ek ≤ k) (he : t.es[k - ek]? = some e) : tabF Kc t (n + 1) k = errC t.exs e := callF_prim (by
  have := T.small
  unfold Tx.prim
  rw [if_neg (by omega), if_neg (by omega), if_pos h, he]
  rfl)
theorem prim_d {t : Tx} {n k : Nat} {Kc : Nat → D} {cns : List Str} {gcd : Bool} {d : Dr} (T : TabOk t cns gcd) (hc : k ≠ t.c) (hr : k ≠ t.r) (hd : t.ds[k]? = some d) : tabF Kc t (n + 1) k = fun as => if as.length = d.ps.length then popM (run (tabF Kc t n) Kc d.N.length d.body as) else M.bad := by
  have := T.small
  have hk := (List.getElem?_eq_some_iff.mp hd).1
  exact callF_at (d := d.df) (by
    unfold Tx.prim
    rw [if_neg hc, if_neg hr, if_neg (by omega)]) (by rw [List.getElem?_map, hd]; rfl)
theorem arity_ok {Kc : Nat → D} {t : Tx} {n k m : Nat} {x : Str} {cns : List Str} {gcd : Bool} (T : TabOk t cns gcd) (h : (fnsOf t.ds)[k]? = some (x, m)) {G : Gx} (z : List Addr) (W : Wd) (as : List D) (P : D → Wd → Prop) (Ex : Nat → List D → Wd → Prop) (q : Wp G z W (tabF Kc t n k as) P Ex) : as.length = m := by
  obtain ⟨d, h1, h2, h3⟩ := fns_at h
  cases n with
  | zero => exact q.bad.elim
  | succ n =>
    by_cases hc : k = t.c
    · subst hc
      rw [prim_c] at q
      have := (T.cup d h1).2.1
      unfold primCup at q
      split at q
      · rw [← h3, this]; rfl
      · exact q.bad.elim
    · by_cases hr : k = t.r
      · subst hr
        rw [prim_r T] at q
        have := (T.roll d h1).2.1
        unfold primRoll at q
        split at q
        · rw [← h3, this]; rfl
        · exact q.bad.elim
      · rw [prim_d T hc hr h1] at q
        rcases q.ite with ⟨q1, _⟩ | ⟨_, q⟩
        · exact q1.trans h3
        · exact q.bad.elim
theorem ErrK.imp {P : Program} {w : World} {K : PySem.W.Frag} {mg : Str → Option Value} {base : Heap} {G : Gx} {c c' : List D → M D} {x : Str} (h : ErrK G P w K mg base c x) (hc : ∀ as, c' as = c as ∨ c' as = M.bad) : ErrK G P w K mg base c' x := by
  obtain ⟨a, g, pg, bg, sg, dV, kV, doc, pm, cdv, ct, oc, an, od, osl, Ng, TT, g1, g2, g3, g4, g5, g6, g7, g8, g9, g10, g11⟩ := h.ex
  refine ⟨a, g, pg, bg, sg, dV, kV, doc, pm, cdv, ct, oc, an, od, osl, Ng, TT, g1, g2, g3, g4, g5, g6, g7, g8, g9, g10, fun z W1 m tl Q Ex k1 hw => g11 z W1 m tl Q Ex k1 ?_⟩
  refine T.bind_good (T.good_mono (fun r q => ?_) (T.good_bind (show ((m W1.μ).bind _).good _ from hw)))
  have main : ∀ (Post : R D → Prop) (as : List D) (μ' : Mem), (Post .bad → False) → ((c' as μ').bind (errEnd W1.μ.length)).good Post → ((c as μ').bind (errEnd W1.μ.length)).good Post := fun Post as μ' hb q => by
    rcases hc as with e | e
    · rw [← e]
      exact q
    · rw [e] at q
      exact (hb q).elim
  cases r with
  | bad => exact q
  | ok d μ' => exact main _ [] μ' (fun h => h) q
  | exc c0 xs μ' =>
    cases xs with
    | cons x xs => exact q
    | nil => exact main _ [.int c0] μ' (fun h => h) q
/-- THE TABLE: each def does what its run says -/
theorem tab_ok {P : Program} {w : World} {K : PySem.W.Frag} {mg : Str → Option Value} {base : Heap} {G : Gx} {Kc : Nat → D} {t : Tx} {cns : List Str} {gcd : Bool}
    (hK : K = G.K) (T : TabOk t cns gcd) (hn : t.ds.length = G.nf)
    (F : ∀ k d, t.ds[k]? = some d → ∃ fd, FunD K d.name d.name (defArgs d.st) (defBody d.st) (defScope d.st) [] [] (G.fa k) fd ∧ Binds K fd d.ps [] ∧
      (d.lam = true → ∀ c, fd.code = .ref c → ∃ Q, LamX.TabB base mg c Q ∧ (Q, d.name ++ ".<locals>." ++ "<lambda>") ∈ G.T ∧ ∀ p ∈ G.T, p.1 = Q → p.2 = d.name ++ ".<locals>." ++ "<lambda>"))
    (bi : ∀ x ∈ builtins, mg x = none) (con : ∀ k x, cns[k]? = some x → ∃ v u, mg x = some u ∧ RelV v u ∧ ∀ F m, Rp G F m (Kc k) v) (hg : gcd = true → mg "gcd" = some (.builtin "math.gcd"))
    (gl : ∀ k d, t.ds[k]? = some d → mg d.name = some (.ref (G.fa k))) (xf : ExcF G K mg t.exs) (er : ∀ e ∈ t.es, ErrK G P w K mg base (errC t.exs e) e.name) :
    ∀ n k d, t.ds[k]? = some d → ∃ fd, FunD K d.name d.name (defArgs d.st) (defBody d.st) (defScope d.st) [] [] (G.fa k) fd ∧ Binds K fd d.ps [] ∧ FnOk P w K mg base (L2N.CX P w) (3 * n) (G.fa k) fd d.ps (spD G d.ps.length (tabF Kc t n k))
  | 0, k, d, hk => by
    obtain ⟨fd, FD, B, _⟩ := F k d hk
    exact ⟨fd, FD, B, fn_bad fun _ => rfl⟩
  | n + 1, k, d, hk => by
    have ih := tab_ok (P := P) (w := w) (base := base) hK T hn F bi con hg gl xf er n
    obtain ⟨fd, FD, B, HL⟩ := F k d hk
    have D := def_ok (P := P) (w := w) (mg := mg) (base := base) (G := G) (C := tabF Kc t n) (Kc := Kc) (n := 3 * n) (h := t.sh cns gcd) hK FD (T.ck d (List.mem_of_getElem? hk)) bi con hg
      (fun k x m e => by
        obtain ⟨d', e1, e2, e3⟩ := fns_at e
        obtain ⟨fd', F', _⟩ := F k d' e1
        exact ⟨e2 ▸ gl k d' e1, F'.kp⟩)
      (by show (fnsOf t.ds).length = _; unfold fnsOf; rw [List.length_map]; exact hn)
      (fun k x m e z W as P' Ex q => arity_ok T e z W as P' Ex q)
      (fun k x m e => by
        obtain ⟨d', e1, e2, e3⟩ := fns_at e
        obtain ⟨fd', F', B', O'⟩ := ih k d' e1
        exact ⟨fd', d'.ps, B', e3 ▸ O'⟩) xf
      (fun k x e => by
        obtain ⟨e0, h1, h2, h3⟩ := ers_at e
        rw [← h3]
        refine (er e0 (List.mem_of_getElem? h2)).imp fun as => ?_
        cases n with
        | zero => exact .inr rfl
        | succ n => exact .inl (by rw [prim_e T h1 h2])) HL
    refine ⟨fd, FD, B, ?_⟩
    by_cases hc : k = t.c
    · subst hc
      obtain ⟨t1, t2, t3⟩ := T.cup d hk
      rw [prim_c]
      rw [t1, t2, t3] at D
      rw [t2]
      exact D.imp cup_imp
    · by_cases hr : k = t.r
      · subst hr
        obtain ⟨t1, t2, t3⟩ := T.roll d hk
        rw [prim_r T]
        rw [t1, t2, t3] at D
        rw [t2]
        exact D.imp roll_imp
      · rw [prim_d T hc hr hk]
        exact D.imp pop_imp
end DL
/-! DL14: a law's end by the facts of the head -/
namespace DL
open PySem PyProof.Rows L2 PySem.Spec
instance : Inhabited Dr := ⟨⟨"", .Pass ⟨0, 0, 0, 0⟩, [], [], .nil, false⟩⟩
/-- constants of the module -/
inductive Kon where
  | int (i : Int) | str (x : Str)
def Kon.fa (x : Str) : Kon → He.Fa
  | .int i => .int x i
  | .str z => .str x z
def Kon.d : Kon → D
  | .int i => .int i
  | .str z => .str z
def kcOf (ks : List (Str × Kon)) (k : Nat) : D := match ks[k]? with
  | some (_, q) => q.d
  | none => .non
def dfdOf (d : Dr) : He.DefD := ⟨(d.name, none), d.name, d.name, defArgs d.st, defBody d.st, defScope d.st, [], []⟩
def dfdE (d : Er) : He.DefD := ⟨(d.name, none), d.name, d.name, defArgs d.st, defBody d.st, defScope d.st, [], []⟩
def dfs (t : Tx) : List He.DefD := t.ds.map dfdOf ++ t.es.map dfdE
def rzs (t : Tx) : List Str := (t.exs.filter (·.2)).map (·.1)
def faOf (t : Tx) (ks : List (Str × Kon)) : List He.Fa := t.ds.map (fun d => He.Fa.glo d.name) ++ (builtins.map He.Fa.free ++ (ks.map (fun q => q.2.fa q.1) ++
  (t.es.map (fun e => He.Fa.glo e.name) ++ (t.exs.map (fun p => He.Fa.glo p.1) ++ ((rzs t).map He.Fa.exc ++ (t.es.map (fun e => He.Fa.glo e.ge) ++ t.es.flatMap fun e => (rzs t).map fun x => He.Fa.exm x e.ge true))))))
def kitAll (K : PySem.W.Frag) (exs : List (Str × Bool)) : Bool := (List.range exs.length).all fun j => (List.range exs.length).all fun q => match exs[j]?, exs[q]? with
  | some (x, true), some (y, _) => decide (PySem.W.kitOne K (.ref (He.ga K x)) (.ref (He.ga K y)) = some (j == q))
  | _, _ => true
def excCB (K : PySem.W.Frag) (C : Addr) : Bool := He.eqO (PySem.W.findIn K (.ref C) "__getattribute__") (some (some (.builtin "BaseException.__getattribute__"))) && He.eqO (PySem.W.findIn K (.ref C) "__getattr__") (some none) &&
  decide (PySem.W.subIn K (.ref C) (.type "BaseException") = some true) && PySem.W.hasDictIn K C && He.eqO (PySem.W.findIn K (.ref C) "__class__") (some (some (.builtin "object.__class__"))) &&
  He.eqO (PySem.W.specialIn K (.builtin "object.__class__") "__get__") (some (some (.builtin "getset_descriptor.__get__"))) && decide (PySem.W.takesIn K (.builtin "object.__class__") = some true) && decide (PySem.W.mroIn K C (.type "object") = some true)
theorem excCB_ok {K : PySem.W.Frag} {C : Addr} (h : excCB K C = true) : ExcC K C := by
  unfold excCB at h
  simp only [Bool.and_eq_true, decide_eq_true_eq] at h
  obtain ⟨⟨⟨⟨⟨⟨⟨h1, h2⟩, h3⟩, h4⟩, h5⟩, h6⟩, h7⟩, h8⟩ := h
  exact ⟨He.eqO_ok h1, He.eqO_ok h2, h3, h4, He.eqO_ok h5, He.eqO_ok h6, h7, h8⟩
def lams (t : Tx) : List Dr := t.ds.filter (·.lam)
def lamB (K : PySem.W.Frag) (l : List Dr) : Bool := l.all fun d => l.all fun e => !((He.cT K (d.name, none)).2 == (He.cT K (e.name, none)).2) || decide (d.name = e.name)
def exOf (gcd : Bool) (t : Tx) (K : PySem.W.Frag) : Bool := (!gcd || He.eqO (PySem.W.nsIn K mainGlobals "gcd") (some (some (.builtin "math.gcd")))) && (kitAll K t.exs && ((rzs t).all fun x => excCB K (He.ga K x)) && lamB K (lams t))
def tfOf (t : Tx) : List He.Defn := (lams t).map fun d => (d.name, none)
abbrev hkOf (n : Nat) (t : Tx) (ks : List (Str × Kon)) (gcd : Bool) : PySem.W.Hook := He.hookX n (faOf t ks) (dfs t) [] (tfOf t) (exOf gcd t)
theorem fnOk_calm {P : Program} {w : World} {K : PySem.W.Frag} {mg : Str → Option Value} {base : Heap} {k : Nat} {f : Addr} {fd : FuncData} {ps : List Str} {sp : Sp} (F : FnOk P w K mg base (L2N.CX P w) k f fd ps sp) :
    FnOk P w K mg base CX0 k f fd ps (fun vs H Q _ => sp vs H Q fun _ _ _ => False) :=
  ⟨fun vs H Q E h => F.len _ _ _ _ h, fun A outer s H args us vs Q E hr he hb hv hs => codeAny_mono (F.run A outer s H args us vs Q _ hr he hb hv hs) fun r s' q => by
    cases r with
    | ok v =>
      cases v with
      | ret u => exact q
      | _ => exact q
    | error e =>
      obtain ⟨_, _, _, _, _, _, _, _, _, _, _, _, q⟩ := q
      exact q⟩
def bindsB (d : Dr) : Prop := ∀ (kV doc pm : Value) (an : Option Addr) (cdv ct : Value) (us : List Value), us.length = d.ps.length → bindArgs (PySem.W.fnOf d.name d.name (defArgs d.st) (defBody d.st) (defScope d.st) .none kV doc pm an cdv ct) ⟨us, []⟩ = pure (d.ps.zip us)
theorem wd0_F (H : Hp) : Wd.F [] ⟨[], [], H⟩ = H := by
  funext b
  unfold Wd.F
  rw [if_neg]
  rintro (h | ⟨i, h, e⟩)
  · cases h
  · cases e
def bindsE (e : Er) : Prop := ∀ (kV doc pm : Value) (an : Option Addr) (cdv ct : Value) (us : List Value), us.length = 1 → bindArgs (PySem.W.fnOf e.name e.name (defArgs e.st) (defBody e.st) (defScope e.st) .none kV doc pm an cdv ct) ⟨us, []⟩ = pure ([e.N.headD ""].zip us)
theorem mok0 {G : Gx} (H : Hp) (h : LamX.Tabs G.T H) : Mok G [] ⟨[], [], H⟩ := { len := rfl, inj := fun i j a h => by simp [live] at h, zl := fun b h => (nomatch h), zs := fun b h => (nomatch h), tabs := h, ob := fun i a o e => by simp at e }
def good (N : Nat) (t : Tx) (ks : List (Str × Kon)) (L : Nat) : Prop := ∀ ns : List Int, ns.length ≤ 63 → (tabF (kcOf ks) t N L [.scr ns] []).good fun q => ∃ μ, q = .ok (.bl true) μ
theorem law_facts {l : PySem.W.OpenLaw} {w : World} {K : PySem.W.Frag} {h : Heap} {mg : Str → Option Value} {f : Addr} {t : Tx} {ks : List (Str × Kon)} {gcd : Bool} {L N : Nat} {x : Str} {dL : Dr}
    (T : TabOk t (ks.map (·.1)) gcd) (hb : ∀ d ∈ t.ds, bindsB d) (hbe : ∀ e ∈ t.es, bindsE e) (hL : t.ds[L]? = some dL) (hps : dL.ps = [x]) (hgood : good N t ks L)
    (X : K.In h) (G0 : h.Ns mainGlobals mg) (cc : He.SaysX (faOf t ks) (dfs t) [] (tfOf t) (exOf gcd t) w h K) (hmg : mg dL.name = some (.ref f)) :
    LamX.LawAtS l w K CX0 (3 * N) 63 x mg f h := by
  have sd : He.SaysD (faOf t ks) (dfs t) K := cc.t.d
  have fF : ∀ {q : He.Fa}, q ∈ faOf t ks → q.ok K = true := fun hq => sd.facts hq
  have hex : exOf gcd t K = true := cc.more
  obtain ⟨hex1, hex2⟩ := and4 hex
  obtain ⟨hex2, hex5⟩ := and4 hex2
  obtain ⟨hex3, hex4⟩ := and4 hex2
  obtain ⟨G, hG⟩ : ∃ G : Gx, G = ⟨l.prog, w, K, mg, h, fun k => He.ga K (t.ds.getD k default).name, fun j => He.ga K (t.exs.getD j ("", false)).1, (lams t).map (fun d => ((He.cT K (d.name, none)).2, d.name ++ ".<locals>." ++ "<lambda>")), none, t.ds.length⟩ := ⟨_, rfl⟩
  have hK : K = G.K := by rw [hG]
  have hfa : ∀ k d, t.ds[k]? = some d → G.fa k = He.ga K d.name := fun k d e => by
    rw [hG]
    show He.ga K (t.ds.getD k default).name = _
    rw [List.getD_eq_getElem?_getD, e]
    rfl
  have hca : ∀ j y b, t.exs[j]? = some (y, b) → G.ca j = He.ga K y := fun j y b e => by
    rw [hG]
    show He.ga K (t.exs.getD j ("", false)).1 = _
    rw [List.getD_eq_getElem?_getD, e]
    rfl
  have i1 : ∀ {q : He.Fa}, q ∈ t.ds.map (fun d => He.Fa.glo d.name) → q ∈ faOf t ks := fun h => List.mem_append_left _ h
  have i2 : ∀ {q : He.Fa}, q ∈ builtins.map He.Fa.free → q ∈ faOf t ks := fun h => List.mem_append_right _ (List.mem_append_left _ h)
  have i3 : ∀ {q : He.Fa}, q ∈ ks.map (fun q => q.2.fa q.1) → q ∈ faOf t ks := fun h => List.mem_append_right _ (List.mem_append_right _ (List.mem_append_left _ h))
  have i4 : ∀ {q : He.Fa}, q ∈ t.es.map (fun e => He.Fa.glo e.name) → q ∈ faOf t ks := fun h => List.mem_append_right _ (List.mem_append_right _ (List.mem_append_right _ (List.mem_append_left _ h)))
  have i5 : ∀ {q : He.Fa}, q ∈ t.exs.map (fun p => He.Fa.glo p.1) → q ∈ faOf t ks := fun h => List.mem_append_right _ (List.mem_append_right _ (List.mem_append_right _ (List.mem_append_right _ (List.mem_append_left _ h))))
  have i6 : ∀ {q : He.Fa}, q ∈ (rzs t).map He.Fa.exc → q ∈ faOf t ks := fun h => List.mem_append_right _ (List.mem_append_right _ (List.mem_append_right _ (List.mem_append_right _ (List.mem_append_right _ (List.mem_append_left _ h)))))
  have i7 : ∀ {q : He.Fa}, q ∈ t.es.map (fun e => He.Fa.glo e.ge) → q ∈ faOf t ks := fun h => List.mem_append_right _ (List.mem_append_right _ (List.mem_append_right _ (List.mem_append_right _ (List.mem_append_right _ (List.mem_append_right _ (List.mem_append_left _ h))))))
  have i8 : ∀ {q : He.Fa}, q ∈ t.es.flatMap (fun e => (rzs t).map fun x => He.Fa.exm x e.ge true) → q ∈ faOf t ks := fun h => List.mem_append_right _ (List.mem_append_right _ (List.mem_append_right _ (List.mem_append_right _ (List.mem_append_right _ (List.mem_append_right _ (List.mem_append_right _ h))))))
  have gl : ∀ k d, t.ds[k]? = some d → mg d.name = some (.ref (G.fa k)) := fun k d e => by
    rw [hfa k d e]
    exact He.glo_ok X G0 (fF (i1 (List.mem_map.mpr ⟨d, List.mem_of_getElem? e, rfl⟩)))
  have fd_of : ∀ k d, t.ds[k]? = some d → ∃ fd, FunD K d.name d.name (defArgs d.st) (defBody d.st) (defScope d.st) [] [] (G.fa k) fd := fun k d e => by
    obtain ⟨fd, F⟩ := sd.defs (d := dfdOf d) (List.mem_append_left _ (List.mem_map.mpr ⟨d, List.mem_of_getElem? e, rfl⟩))
    rw [hfa k d e]
    exact ⟨fd, F⟩
  have bi : ∀ y ∈ builtins, mg y = none := fun y hy => He.free_ok X G0 (fF (i2 (List.mem_map.mpr ⟨y, hy, rfl⟩)))
  have con : ∀ k y, (ks.map (·.1))[k]? = some y → ∃ v u, mg y = some u ∧ RelV v u ∧ ∀ F m, Rp G F m (kcOf ks k) v := fun k y e => by
    rw [List.getElem?_map] at e
    cases q : ks[k]? with
    | none => rw [q] at e; cases e
    | some p =>
      rw [q] at e
      cases e
      obtain ⟨y, p⟩ := p
      have hq : p.fa y ∈ faOf t ks := i3 (List.mem_map.mpr ⟨(y, p), List.mem_of_getElem? q, rfl⟩)
      have hkc : kcOf ks k = p.d := by
        unfold kcOf
        rw [q]
      cases p with
      | int i =>
        obtain ⟨t, ht⟩ := He.int_ok X G0 (fF hq)
        exact ⟨.int i, _, ht, ⟨t, rfl⟩, fun F m => by rw [hkc]; exact .int i⟩
      | str z =>
        obtain ⟨t, ht⟩ := He.str_ok X G0 (fF hq)
        exact ⟨.str z, _, ht, ⟨t, rfl⟩, fun F m => by rw [hkc]; exact .str z⟩
  have hg : gcd = true → mg "gcd" = some (.builtin "math.gcd") := fun hg => by
    rw [hg] at hex1
    exact PySem.W.mg_of X G0 (He.eqO_ok hex1)
  have rz : ∀ j y, t.exs[j]? = some (y, true) → y ∈ rzs t := fun j y e => List.mem_map.mpr ⟨(y, true), List.mem_filter.mpr ⟨List.mem_of_getElem? e, rfl⟩, rfl⟩
  have xf : ExcF G K mg t.exs := {
    mg := fun j y b e => by
      rw [hca j y b e]
      exact He.glo_ok X G0 (fF (i5 (List.mem_map.mpr ⟨(y, b), List.mem_of_getElem? e, rfl⟩)))
    mak := fun j y e => by
      rw [hca j y true e]
      exact He.exc_ok (fF (i6 (List.mem_map.mpr ⟨y, rz j y e, rfl⟩)))
    is := fun j y e => by
      rw [hca j y true e]
      exact excCB_ok (List.all_eq_true.mp hex4 y (rz j y e))
    kit := fun j y q y2 b e e2 => by
      rw [hca j y true e, hca q y2 b e2]
      have h1 := List.all_eq_true.mp hex3 j (List.mem_range.mpr (List.getElem?_eq_some_iff.mp e).1)
      have h2 := List.all_eq_true.mp h1 q (List.mem_range.mpr (List.getElem?_eq_some_iff.mp e2).1)
      rw [e, e2] at h2
      exact of_decide_eq_true h2 }
  have er : ∀ base : Heap, ∀ e ∈ t.es, ErrK G l.prog w K mg base (errC t.exs e) e.name := fun base e he => by
    obtain ⟨fd, F⟩ := sd.defs (d := dfdE e) (List.mem_append_right _ (List.mem_map.mpr ⟨e, he, rfl⟩))
    refine er_ok (by rw [hG]) hK F (T.ce e he) (He.glo_ok X G0 (fF (i4 (List.mem_map.mpr ⟨e, he, rfl⟩)))) (fun a ha => ?_) bi xf (He.glo_ok X G0 (fF (i7 (List.mem_map.mpr ⟨e, he, rfl⟩)))) fun j y ey => ?_
    · have hd : e.N.headD "" = a := by
        rw [← List.head?_eq_getElem?] at ha
        rw [List.headD_eq_head?_getD, ha]
        rfl
      refine F.bindsN fun kV doc pm an cdv ct us hl => ?_
      rw [← hd]
      exact hbe e he kV doc pm an cdv ct us hl
    · rw [hca j y true ey]
      exact He.exm_ok (fF (i8 (List.mem_flatMap.mpr ⟨e, he, List.mem_map.mpr ⟨y, rz j y ey, rfl⟩⟩)))
  obtain ⟨fd, FD⟩ := fd_of L dL hL
  have ef : f = G.fa L := by
    have := hmg.symm.trans (gl L dL hL)
    cases this
    rfl
  have b := FunD.bindsA (ps := dL.ps) FD (hb dL (List.mem_of_getElem? hL))
  have hcs : ∀ p ∈ (tfOf t).map (He.cT K), ∃ q ∈ tfOf t, He.cT K q = p := fun p hp => List.mem_map.mp hp
  refine ⟨fd, (tfOf t).map (He.cT K), fun vs H Q _ => spD G dL.ps.length (tabF (kcOf ks) t N L) vs H Q fun _ _ _ => False, fun p hp => ?_, fun p hp => ?_, fun p hp => ?_, fun s u => ?_, ?_, fun base hKb hns hTB => ?_⟩
  · obtain ⟨q, hq, rfl⟩ := hcs p hp
    exact cc.empty q hq
  · obtain ⟨q, hq, rfl⟩ := hcs p hp
    exact cc.out q hq
  · obtain ⟨q, hq, rfl⟩ := hcs p hp
    exact PySem.W.codeHd_of_K X (cc.hd q hq)
  · have := b s [u] (by rw [hps]; rfl)
    rw [hps] at this
    exact this
  · intro H a ns hl _ hTb hS
    refine ⟨[], [.scr ns], ⟨[], [], H⟩, rfl, by rw [hps]; rfl, mok0 H (fun p hp => ?_), ?_, ?_⟩
    · rw [hG] at hp
      obtain ⟨d, hd, rfl⟩ := List.mem_map.mp hp
      exact LamX.TabS.nil (hTb (He.cT K (d.name, none)) (List.mem_map.mpr ⟨(d.name, none), List.mem_map.mpr ⟨d, hd, rfl⟩, rfl⟩))
    · show Rps G (Wd.F [] ⟨[], [], H⟩) [] [.scr ns] [.ref a]
      rw [wd0_F]
      exact .cons (.scr (hK ▸ hS)) .nil
    · refine DL.T.good_mono (fun q hq => ?_) (hgood ns hl)
      obtain ⟨μ, rfl⟩ := hq
      intro W' _ _ _ v hv
      cases hv
      rfl
  · obtain ⟨fd2, FD2, _, O⟩ := tab_ok (P := l.prog) (w := w) (base := base) (t := t) hK T (by rw [hG]) (fun k d e => by
      obtain ⟨fd, F⟩ := fd_of k d e
      refine ⟨fd, F, F.bindsN (hb d (List.mem_of_getElem? e)), fun hlam c hc => ?_⟩
      have hm : d ∈ lams t := List.mem_filter.mpr ⟨List.mem_of_getElem? e, hlam⟩
      obtain ⟨oc, od, dV, kV, doc, pm, an, cdv, ct, osl, e1, lk, _⟩ := F.ex
      have hcode : He.codeOf K (d.name, none) = c := He.codeOf_eq (p := (d.name, none)) (by
        show K.lookup (He.ga K d.name) = _
        rw [← hfa k d e]
        exact lk) hc
      refine ⟨(He.cT K (d.name, none)).2, ?_, ?_, fun p hp hq => ?_⟩
      · have := hTB (He.cT K (d.name, none)) (List.mem_map.mpr ⟨(d.name, none), List.mem_map.mpr ⟨d, hm, rfl⟩, rfl⟩)
        rw [← hcode]
        exact this
      · rw [hG]
        exact List.mem_map.mpr ⟨d, hm, rfl⟩
      · rw [hG] at hp
        obtain ⟨d2, hd2, rfl⟩ := List.mem_map.mp hp
        have h1 := List.all_eq_true.mp (List.all_eq_true.mp hex5 d2 hd2) d hm
        rw [show (He.cT K (d2.name, none)).2 = (He.cT K (d.name, none)).2 from hq] at h1
        have h2 : d2.name = d.name := by simpa using h1
        show d2.name ++ _ ++ _ = _
        rw [h2]) bi con hg gl xf (er base) N L dL hL
    have efd : fd2 = fd := by
      obtain ⟨_, _, _, _, _, _, _, _, _, _, _, lk1, _⟩ := FD.ex
      obtain ⟨_, _, _, _, _, _, _, _, _, _, _, lk2, _⟩ := FD2.ex
      rw [lk1] at lk2
      have := Option.some.inj lk2
      injection this with _ _ h3 _
      injection h3 with h4
      exact h4.symm
    rw [ef, ← efd, ← hps]
    exact fnOk_calm O
end DL
/-! DL15: runs without memory, in equations -/
namespace DL
open PySem
theorem T.bind_assoc {α β γ : Type} (f : α → T β) (g : β → T γ) : ∀ t : T α, (t.bind f).bind g = t.bind fun a => (f a).bind g
  | .ret a => rfl
  | .roll n k => by
    show T.roll n _ = T.roll n _
    congr 1
    funext r
    exact T.bind_assoc f g (k r)
section
variable {α β γ : Type}
@[simp] theorem pb (a : α) (f : α → M β) : M.bind (M.pure a) f = f a := rfl
@[simp] theorem bb (m : M α) (f : α → M β) (g : β → M γ) : M.bind (M.bind m f) g = M.bind m fun x => M.bind (f x) g := by
  funext μ
  unfold M.bind
  rw [T.bind_assoc]
  congr 1
  funext r
  cases r <;> rfl
@[simp] theorem badb (f : α → M β) : M.bind M.bad f = M.bad := rfl
@[simp] theorem opt_some (a : α) : M.opt (some a) = M.pure a := rfl
@[simp] theorem opt_none : M.opt (none : Option α) = M.bad := rfl
@[simp] theorem iteb {c : Prop} [Decidable c] (a b : M α) (f : α → M β) : M.bind (if c then a else b) f = if c then M.bind a f else M.bind b f := by
  by_cases q : c
  · rw [if_pos q, if_pos q]
  · rw [if_neg q, if_neg q]
@[simp] theorem popM_pure (a : D) : popM (M.pure a) = M.pure a := by
  funext μ
  show (if _ then T.ret (R.ok a (μ.take μ.length)) else T.ret (R.ok a μ)) = _
  rw [List.take_length]
  exact ite_self _
@[simp] theorem popM_bad : popM M.bad = M.bad := rfl
@[simp] theorem popM_ite {c : Prop} [Decidable c] (a b : M D) : popM (if c then a else b) = if c then popM a else popM b := by
  by_cases q : c
  · rw [if_pos q, if_pos q]
  · rw [if_neg q, if_neg q]
theorem popM_opt (o : Option D) : popM (M.opt o) = M.opt o := by
  cases o <;> simp
end
section
variable (C : Nat → List D → M D) (K : Nat → D) (ρ : Env)

variable (a b c d e es it elt cond lo hi : Ez) (o : Op2) (bo : BoolOp) (cp cp2 : Cp) (n : Nat) (z : Int) (x : Str) (q : Bool) (s : String) (f : Bf) (tg : Tz)
@[simp] theorem ev_non_e : (ev C K (.non)).e ρ = M.pure .non := rfl
@[simp] theorem ev_non_t : (ev C K (.non)).t ρ = M.bind ((ev C K (.non)).e ρ) truth := rfl
@[simp] theorem ev_non_i : (ev C K (.non)).i ρ = M.bind ((ev C K (.non)).e ρ) still := rfl
@[simp] theorem ev_non_p : (ev C K (.non)).p ρ = M.bind ((ev C K (.non)).e ρ) asInt := rfl
@[simp] theorem ev_bl_e : (ev C K (.bl q)).e ρ = M.pure (.bl q) := rfl
@[simp] theorem ev_bl_t : (ev C K (.bl q)).t ρ = M.bind ((ev C K (.bl q)).e ρ) truth := rfl
@[simp] theorem ev_bl_i : (ev C K (.bl q)).i ρ = M.bind ((ev C K (.bl q)).e ρ) still := rfl
@[simp] theorem ev_bl_p : (ev C K (.bl q)).p ρ = M.bind ((ev C K (.bl q)).e ρ) asInt := rfl
@[simp] theorem ev_int_e : (ev C K (.int z)).e ρ = M.pure (.int z) := rfl
@[simp] theorem ev_int_t : (ev C K (.int z)).t ρ = M.bind ((ev C K (.int z)).e ρ) truth := rfl
@[simp] theorem ev_int_i : (ev C K (.int z)).i ρ = M.bind ((ev C K (.int z)).e ρ) still := rfl
@[simp] theorem ev_int_p : (ev C K (.int z)).p ρ = M.bind ((ev C K (.int z)).e ρ) asInt := rfl
@[simp] theorem ev_str_e : (ev C K (.str x)).e ρ = M.pure (.str x) := rfl
@[simp] theorem ev_str_t : (ev C K (.str x)).t ρ = M.bind ((ev C K (.str x)).e ρ) truth := rfl
@[simp] theorem ev_str_i : (ev C K (.str x)).i ρ = M.bind ((ev C K (.str x)).e ρ) still := rfl
@[simp] theorem ev_str_p : (ev C K (.str x)).p ρ = M.bind ((ev C K (.str x)).e ρ) asInt := rfl
@[simp] theorem ev_var_e : (ev C K (.var n)).e ρ = M.bind (get ρ n) res := rfl
@[simp] theorem ev_var_t : (ev C K (.var n)).t ρ = M.bind ((ev C K (.var n)).e ρ) truth := rfl
@[simp] theorem ev_var_i : (ev C K (.var n)).i ρ = M.bind ((ev C K (.var n)).e ρ) still := rfl
@[simp] theorem ev_var_p : (ev C K (.var n)).p ρ = M.bind ((ev C K (.var n)).e ρ) asInt := rfl
@[simp] theorem ev_gfn_e : (ev C K (.gfn n)).e ρ = M.pure (.fn n) := rfl
@[simp] theorem ev_gfn_t : (ev C K (.gfn n)).t ρ = M.bind ((ev C K (.gfn n)).e ρ) truth := rfl
@[simp] theorem ev_gfn_i : (ev C K (.gfn n)).i ρ = M.bind ((ev C K (.gfn n)).e ρ) still := rfl
@[simp] theorem ev_gfn_p : (ev C K (.gfn n)).p ρ = M.bind ((ev C K (.gfn n)).e ρ) asInt := rfl
@[simp] theorem ev_gcon_e : (ev C K (.gcon n)).e ρ = M.pure (K n) := rfl
@[simp] theorem ev_gcon_t : (ev C K (.gcon n)).t ρ = M.bind ((ev C K (.gcon n)).e ρ) truth := rfl
@[simp] theorem ev_gcon_i : (ev C K (.gcon n)).i ρ = M.bind ((ev C K (.gcon n)).e ρ) still := rfl
@[simp] theorem ev_gcon_p : (ev C K (.gcon n)).p ρ = M.bind ((ev C K (.gcon n)).e ρ) asInt := rfl
@[simp] theorem ev_gty_e : (ev C K (.gty s)).e ρ = M.pure (.ty s) := rfl
@[simp] theorem ev_gty_t : (ev C K (.gty s)).t ρ = M.bind ((ev C K (.gty s)).e ρ) truth := rfl
@[simp] theorem ev_gty_i : (ev C K (.gty s)).i ρ = M.bind ((ev C K (.gty s)).e ρ) still := rfl
@[simp] theorem ev_gty_p : (ev C K (.gty s)).p ρ = M.bind ((ev C K (.gty s)).e ρ) asInt := rfl
@[simp] theorem ev_frz_e : (ev C K (.frz n)).e ρ = M.bind (get ρ n) frz := rfl
@[simp] theorem ev_frz_t : (ev C K (.frz n)).t ρ = M.bind ((ev C K (.frz n)).e ρ) truth := rfl
@[simp] theorem ev_frz_i : (ev C K (.frz n)).i ρ = M.bind ((ev C K (.frz n)).e ρ) still := rfl
@[simp] theorem ev_frz_p : (ev C K (.frz n)).p ρ = M.bind ((ev C K (.frz n)).e ρ) asInt := rfl
@[simp] theorem ev_bin_e : (ev C K (.bin o a b)).e ρ = M.bind ((ev C K a).e ρ) fun x => M.bind ((ev C K b).e ρ) fun y => binop o x y := rfl
@[simp] theorem ev_bin_t : (ev C K (.bin o a b)).t ρ = M.bind ((ev C K (.bin o a b)).e ρ) truth := rfl
@[simp] theorem ev_bin_i : (ev C K (.bin o a b)).i ρ = M.bind ((ev C K (.bin o a b)).e ρ) still := rfl
@[simp] theorem ev_bin_p : (ev C K (.bin o a b)).p ρ = M.bind ((ev C K (.bin o a b)).e ρ) asInt := rfl
@[simp] theorem ev_neg_e : (ev C K (.neg a)).e ρ = M.bind ((ev C K a).e ρ) negop := rfl
@[simp] theorem ev_neg_t : (ev C K (.neg a)).t ρ = M.bind ((ev C K (.neg a)).e ρ) truth := rfl
@[simp] theorem ev_neg_i : (ev C K (.neg a)).i ρ = M.bind ((ev C K (.neg a)).e ρ) still := rfl
@[simp] theorem ev_neg_p : (ev C K (.neg a)).p ρ = M.bind ((ev C K (.neg a)).e ρ) asInt := rfl
@[simp] theorem ev_cmp_e : (ev C K (.cmp cp a b)).e ρ = M.bind ((ev C K a).e ρ) fun x => M.bind ((ev C K b).e ρ) fun y => cmpop cp x y := rfl
@[simp] theorem ev_cmp_t : (ev C K (.cmp cp a b)).t ρ = M.bind ((ev C K (.cmp cp a b)).e ρ) truth := rfl
@[simp] theorem ev_cmp_i : (ev C K (.cmp cp a b)).i ρ = M.bind ((ev C K (.cmp cp a b)).e ρ) still := rfl
@[simp] theorem ev_cmp_p : (ev C K (.cmp cp a b)).p ρ = M.bind ((ev C K (.cmp cp a b)).e ρ) asInt := rfl
@[simp] theorem ev_chain_e : (ev C K (.chain cp cp2 a b d)).e ρ = M.bind ((ev C K a).e ρ) fun x => M.bind ((ev C K b).e ρ) fun y => M.bind (cmpop cp x y) (chainop cp2 y ((ev C K d).e ρ)) := rfl
@[simp] theorem ev_chain_t : (ev C K (.chain cp cp2 a b d)).t ρ = M.bind ((ev C K (.chain cp cp2 a b d)).e ρ) truth := rfl
@[simp] theorem ev_chain_i : (ev C K (.chain cp cp2 a b d)).i ρ = M.bind ((ev C K (.chain cp cp2 a b d)).e ρ) still := rfl
@[simp] theorem ev_chain_p : (ev C K (.chain cp cp2 a b d)).p ρ = M.bind ((ev C K (.chain cp cp2 a b d)).e ρ) asInt := rfl
@[simp] theorem ev_ife_e : (ev C K (.ife c a b)).e ρ = M.bind ((ev C K c).t ρ) fun k => if k = true then (ev C K a).e ρ else (ev C K b).e ρ := rfl
@[simp] theorem ev_ife_t : (ev C K (.ife c a b)).t ρ = M.bind ((ev C K (.ife c a b)).e ρ) truth := rfl
@[simp] theorem ev_ife_i : (ev C K (.ife c a b)).i ρ = M.bind ((ev C K (.ife c a b)).e ρ) still := rfl
@[simp] theorem ev_ife_p : (ev C K (.ife c a b)).p ρ = M.bind ((ev C K (.ife c a b)).e ρ) asInt := rfl
@[simp] theorem ev_tup_e : (ev C K (.tup es)).e ρ = M.bind ((ev C K es).es ρ) fun xs => M.bind (lenOk xs) fun xs => M.pure (.tup xs) := rfl
@[simp] theorem ev_tup_t : (ev C K (.tup es)).t ρ = M.bind ((ev C K (.tup es)).e ρ) truth := rfl
@[simp] theorem ev_tup_i : (ev C K (.tup es)).i ρ = M.bind ((ev C K (.tup es)).e ρ) still := rfl
@[simp] theorem ev_tup_p : (ev C K (.tup es)).p ρ = M.bind ((ev C K (.tup es)).e ρ) asInt := rfl
@[simp] theorem ev_idx_e : (ev C K (.idx a b)).e ρ = M.bind ((ev C K a).e ρ) fun x => M.bind ((ev C K b).e ρ) fun y => idxop x y := rfl
@[simp] theorem ev_idx_t : (ev C K (.idx a b)).t ρ = M.bind ((ev C K (.idx a b)).e ρ) truth := rfl
@[simp] theorem ev_idx_i : (ev C K (.idx a b)).i ρ = M.bind ((ev C K (.idx a b)).e ρ) still := rfl
@[simp] theorem ev_idx_p : (ev C K (.idx a b)).p ρ = M.bind ((ev C K (.idx a b)).e ρ) asInt := rfl
@[simp] theorem ev_slc_e : (ev C K (.slc a lo hi)).e ρ = M.bind ((ev C K a).e ρ) fun x => M.bind ((ev C K lo).p ρ) fun l => M.bind ((ev C K hi).p ρ) fun h => slcop l h x := rfl
@[simp] theorem ev_slc_t : (ev C K (.slc a lo hi)).t ρ = M.bind ((ev C K (.slc a lo hi)).e ρ) truth := rfl
@[simp] theorem ev_slc_i : (ev C K (.slc a lo hi)).i ρ = M.bind ((ev C K (.slc a lo hi)).e ρ) still := rfl
@[simp] theorem ev_slc_p : (ev C K (.slc a lo hi)).p ρ = M.bind ((ev C K (.slc a lo hi)).e ρ) asInt := rfl
@[simp] theorem ev_mkl_e : (ev C K (.mkl a)).e ρ = M.bind ((ev C K a).l ρ) fun xs => alloc (.lst xs) := rfl
@[simp] theorem ev_mkl_t : (ev C K (.mkl a)).t ρ = M.bind ((ev C K (.mkl a)).e ρ) truth := rfl
@[simp] theorem ev_mkl_i : (ev C K (.mkl a)).i ρ = M.bind ((ev C K (.mkl a)).e ρ) still := rfl
@[simp] theorem ev_mkl_p : (ev C K (.mkl a)).p ρ = M.bind ((ev C K (.mkl a)).e ρ) asInt := rfl
@[simp] theorem ev_call_e : (ev C K (.call n es)).e ρ = M.bind ((ev C K es).es ρ) (C n) := rfl
@[simp] theorem ev_call_t : (ev C K (.call n es)).t ρ = M.bind ((ev C K (.call n es)).e ρ) truth := rfl
@[simp] theorem ev_call_i : (ev C K (.call n es)).i ρ = M.bind ((ev C K (.call n es)).e ρ) still := rfl
@[simp] theorem ev_call_p : (ev C K (.call n es)).p ρ = M.bind ((ev C K (.call n es)).e ρ) asInt := rfl
@[simp] theorem ev_bf_e : (ev C K (.bf f es)).e ρ = M.bind ((ev C K es).es ρ) (bfop f) := rfl
@[simp] theorem ev_bf_t : (ev C K (.bf f es)).t ρ = M.bind ((ev C K (.bf f es)).e ρ) truth := rfl
@[simp] theorem ev_bf_i : (ev C K (.bf f es)).i ρ = M.bind ((ev C K (.bf f es)).e ρ) still := rfl
@[simp] theorem ev_bf_p : (ev C K (.bf f es)).p ρ = M.bind ((ev C K (.bf f es)).e ρ) asInt := rfl
@[simp] theorem ev_isx_e : (ev C K (.isx a n)).e ρ = M.bind ((ev C K a).e ρ) (isxop K n) := rfl
@[simp] theorem ev_isx_t : (ev C K (.isx a n)).t ρ = M.bind ((ev C K (.isx a n)).e ρ) truth := rfl
@[simp] theorem ev_isx_i : (ev C K (.isx a n)).i ρ = M.bind ((ev C K (.isx a n)).e ρ) still := rfl
@[simp] theorem ev_isx_p : (ev C K (.isx a n)).p ρ = M.bind ((ev C K (.isx a n)).e ρ) asInt := rfl
@[simp] theorem ev_join_e : (ev C K (.join x b)).e ρ = M.bind ((ev C K b).e ρ) (joinop x) := rfl
@[simp] theorem ev_join_t : (ev C K (.join x b)).t ρ = M.bind ((ev C K (.join x b)).e ρ) truth := rfl
@[simp] theorem ev_join_i : (ev C K (.join x b)).i ρ = M.bind ((ev C K (.join x b)).e ρ) still := rfl
@[simp] theorem ev_join_p : (ev C K (.join x b)).p ρ = M.bind ((ev C K (.join x b)).e ρ) asInt := rfl
@[simp] theorem ev_err_e : (ev C K (.err n a)).e ρ = errM ((ev C K a).e ρ) (C n) := rfl
@[simp] theorem ev_err_t : (ev C K (.err n a)).t ρ = M.bind ((ev C K (.err n a)).e ρ) truth := rfl
@[simp] theorem ev_err_i : (ev C K (.err n a)).i ρ = M.bind ((ev C K (.err n a)).e ρ) still := rfl
@[simp] theorem ev_err_p : (ev C K (.err n a)).p ρ = M.bind ((ev C K (.err n a)).e ρ) asInt := rfl
@[simp] theorem ev_callv_e : (ev C K (.callv n es)).e ρ = M.bind (get ρ n) (callvop C ((ev C K es).es ρ)) := rfl
@[simp] theorem ev_callv_t : (ev C K (.callv n es)).t ρ = M.bind ((ev C K (.callv n es)).e ρ) truth := rfl
@[simp] theorem ev_callv_i : (ev C K (.callv n es)).i ρ = M.bind ((ev C K (.callv n es)).e ρ) still := rfl
@[simp] theorem ev_callv_p : (ev C K (.callv n es)).p ρ = M.bind ((ev C K (.callv n es)).e ρ) asInt := rfl
@[simp] theorem ev_dnew_e : (ev C K (.dnew q)).e ρ = alloc (if q then .dT [] else .dK []) := rfl
@[simp] theorem ev_dnew_t : (ev C K (.dnew q)).t ρ = M.bind ((ev C K (.dnew q)).e ρ) truth := rfl
@[simp] theorem ev_dnew_i : (ev C K (.dnew q)).i ρ = M.bind ((ev C K (.dnew q)).e ρ) still := rfl
@[simp] theorem ev_dnew_p : (ev C K (.dnew q)).p ρ = M.bind ((ev C K (.dnew q)).e ρ) asInt := rfl
@[simp] theorem ev_dget_e : (ev C K (.dget a b)).e ρ = M.bind ((ev C K a).e ρ) fun x => M.bind ((ev C K b).e ρ) fun y => dgetK x y := rfl
@[simp] theorem ev_dget_t : (ev C K (.dget a b)).t ρ = M.bind ((ev C K (.dget a b)).e ρ) truth := rfl
@[simp] theorem ev_dget_i : (ev C K (.dget a b)).i ρ = M.bind ((ev C K (.dget a b)).e ρ) still := rfl
@[simp] theorem ev_dget_p : (ev C K (.dget a b)).p ρ = M.bind ((ev C K (.dget a b)).e ρ) asInt := rfl
@[simp] theorem ev_index_e : (ev C K (.index a b)).e ρ = M.bind ((ev C K a).e ρ) fun x => M.bind (seqL x) fun _ => M.bind ((ev C K b).e ρ) fun y => indexop x y := rfl
@[simp] theorem ev_index_t : (ev C K (.index a b)).t ρ = M.bind ((ev C K (.index a b)).e ρ) truth := rfl
@[simp] theorem ev_index_i : (ev C K (.index a b)).i ρ = M.bind ((ev C K (.index a b)).e ρ) still := rfl
@[simp] theorem ev_index_p : (ev C K (.index a b)).p ρ = M.bind ((ev C K (.index a b)).e ρ) asInt := rfl
@[simp] theorem ev_dgetT_e : (ev C K (.dgetT a es)).e ρ = M.bind ((ev C K a).e ρ) fun x => M.bind ((ev C K es).es ρ) fun ds => M.bind (lenOk ds) fun ds => dgetop x (.tup ds) := rfl
@[simp] theorem ev_dgetT_t : (ev C K (.dgetT a es)).t ρ = M.bind ((ev C K (.dgetT a es)).e ρ) truth := rfl
@[simp] theorem ev_dgetT_i : (ev C K (.dgetT a es)).i ρ = M.bind ((ev C K (.dgetT a es)).e ρ) still := rfl
@[simp] theorem ev_dgetT_p : (ev C K (.dgetT a es)).p ρ = M.bind ((ev C K (.dgetT a es)).e ρ) asInt := rfl
@[simp] theorem ev_bin_l : (ev C K (.bin o a b)).l ρ = M.bind ((ev C K a).e ρ) fun x => M.bind ((ev C K b).e ρ) fun y => binopL o x y := rfl
@[simp] theorem ev_bf_l : (ev C K (.bf f es)).l ρ = M.bind ((ev C K es).es ρ) (bfL f) := rfl
@[simp] theorem ev_slc_l : (ev C K (.slc a lo hi)).l ρ = M.bind ((ev C K a).e ρ) fun x => M.bind ((ev C K lo).p ρ) fun l => M.bind ((ev C K hi).p ρ) fun h => M.bind (seqL x) fun xs => M.pure (cut xs l h) := rfl
@[simp] theorem ev_lst_l : (ev C K (.lst es)).l ρ = M.bind ((ev C K es).es ρ) lenOk := rfl
@[simp] theorem ev_lst_e : (ev C K (.lst es)).e ρ = M.bind ((ev C K (.lst es)).l ρ) fun xs => M.pure (.lst xs) := rfl
@[simp] theorem ev_lst_i : (ev C K (.lst es)).i ρ = M.bind ((ev C K (.lst es)).e ρ) still := rfl
@[simp] theorem ev_lc_l : (ev C K (.lc tg it cond elt)).l ρ = M.bind ((ev C K it).i ρ) fun ds => M.bind (lenOk ds) fun ds => lcGo ds (lcTurn tg (ev C K cond).t (ev C K elt).e ρ) := rfl
@[simp] theorem ev_lc_e : (ev C K (.lc tg it cond elt)).e ρ = M.bind ((ev C K (.lc tg it cond elt)).l ρ) fun xs => M.pure (.lst xs) := rfl
@[simp] theorem ev_lc_i : (ev C K (.lc tg it cond elt)).i ρ = M.bind ((ev C K (.lc tg it cond elt)).e ρ) still := rfl
@[simp] theorem ev_lrng_l : (ev C K (.lrng a b)).l ρ = M.bind ((ev C K a).e ρ) fun x => M.bind ((ev C K b).e ρ) fun y => M.bind (rng2 x y) lenOk := rfl
@[simp] theorem ev_lrng_e : (ev C K (.lrng a b)).e ρ = M.bind ((ev C K (.lrng a b)).l ρ) fun xs => M.pure (.lst xs) := rfl
@[simp] theorem ev_lrng_i : (ev C K (.lrng a b)).i ρ = M.bind ((ev C K (.lrng a b)).e ρ) still := rfl
@[simp] theorem ev_trng_e : (ev C K (.trng a b)).e ρ = M.bind ((ev C K a).e ρ) fun x => M.bind ((ev C K b).e ρ) fun y => M.bind (rng2 x y) fun xs => M.bind (lenOk xs) fun xs => M.pure (.tup xs) := rfl
@[simp] theorem ev_trng_i : (ev C K (.trng a b)).i ρ = M.bind ((ev C K (.trng a b)).e ρ) still := rfl
@[simp] theorem ev_rev_l : (ev C K (.rev a)).l ρ = M.bind ((ev C K a).e ρ) fun x => M.bind (seqL x) fun xs => M.pure xs.reverse := rfl
@[simp] theorem ev_rev_e : (ev C K (.rev a)).e ρ = M.bind ((ev C K (.rev a)).l ρ) fun xs => M.pure (.lst xs) := rfl
@[simp] theorem ev_rev_i : (ev C K (.rev a)).i ρ = M.bind ((ev C K (.rev a)).e ρ) still := rfl
@[simp] theorem ev_range3_i : (ev C K (.range3 a b c)).i ρ = M.bind ((ev C K a).e ρ) fun x => M.bind ((ev C K b).e ρ) fun y => M.bind ((ev C K c).e ρ) fun w => rng3 x y w := rfl
@[simp] theorem ev_zipL_i : (ev C K (.zipL a b)).i ρ = M.bind ((ev C K a).e ρ) fun x => M.bind ((ev C K b).e ρ) fun y => ziplop x y := rfl
@[simp] theorem ev_bool_e : (ev C K (.bool bo es)).e ρ = (ev C K es).b bo ρ := rfl
@[simp] theorem ev_bool_t : (ev C K (.bool bo es)).t ρ = (ev C K es).bt bo ρ := rfl
@[simp] theorem ev_not_e : (ev C K (.not a)).e ρ = M.bind ((ev C K a).e ρ) fun x => M.bind (truth x) fun k => M.pure (.bl !k) := rfl
@[simp] theorem ev_not_t : (ev C K (.not a)).t ρ = M.bind ((ev C K a).t ρ) fun k => M.pure !k := rfl
@[simp] theorem ev_range1_i : (ev C K (.range1 a)).i ρ = M.bind ((ev C K a).e ρ) rng1 := rfl
@[simp] theorem ev_range2_i : (ev C K (.range2 a b)).i ρ = M.bind ((ev C K a).e ρ) fun x => M.bind ((ev C K b).e ρ) fun y => rng2 x y := rfl
@[simp] theorem ev_enum_i : (ev C K (.enum a)).i ρ = M.bind ((ev C K a).e ρ) enumop := rfl
@[simp] theorem ev_zip_i : (ev C K (.zip a b)).i ρ = M.bind ((ev C K a).e ρ) fun x => M.bind ((ev C K b).e ρ) fun y => zipop x y := rfl
@[simp] theorem ev_nil_es : (ev C K .nil).es ρ = M.pure [] := rfl
@[simp] theorem ev_nil_t : (ev C K .nil).t ρ = M.pure true := rfl
@[simp] theorem ev_nil_p : (ev C K .nil).p ρ = M.pure none := rfl
@[simp] theorem ev_cons_es : (ev C K (.cons e es)).es ρ = M.bind ((ev C K e).e ρ) fun x => M.bind ((ev C K es).es ρ) fun xs => M.pure (x :: xs) := rfl
@[simp] theorem ev_one_b : (ev C K (.cons e .nil)).b bo ρ = (ev C K e).e ρ := rfl
@[simp] theorem ev_more_b : (ev C K (.cons e (.cons d es))).b bo ρ = M.bind ((ev C K e).e ρ) fun x => M.bind (truth x) fun k => boolV bo k x ((ev C K (.cons d es)).b bo ρ) := rfl
@[simp] theorem ev_one_bt : (ev C K (.cons e .nil)).bt bo ρ = (ev C K e).t ρ := rfl
@[simp] theorem ev_more_bt : (ev C K (.cons e (.cons d es))).bt bo ρ = M.bind ((ev C K e).t ρ) fun k => boolT bo k ((ev C K (.cons d es)).bt bo ρ) := rfl
end
@[simp] theorem res_non  : res .non = M.pure .non := rfl
@[simp] theorem res_bl {b : Bool} : res (.bl b) = M.pure (.bl b) := rfl
@[simp] theorem res_int {i : Int} : res (.int i) = M.pure (.int i) := rfl
@[simp] theorem res_str {x : Str} : res (.str x) = M.pure (.str x) := rfl
@[simp] theorem res_tup {xs : List D} : res (.tup xs) = M.pure (.tup xs) := rfl
@[simp] theorem res_lst {xs : List D} : res (.lst xs) = M.pure (.lst xs) := rfl
@[simp] theorem res_fn {k : Nat} : res (.fn k) = M.pure (.fn k) := rfl
@[simp] theorem res_cls {k : Nat} : res (.cls k) = M.pure (.cls k) := rfl
@[simp] theorem res_ty {s : String} : res (.ty s) = M.pure (.ty s) := rfl
@[simp] theorem res_scr {ns : List Int} : res (.scr ns) = M.pure (.scr ns) := rfl
section
variable {i j : Int} {xs ys : List D} {a b : Bool} {x y : Str} {m : M D}
@[simp] theorem truth_bl : truth (.bl a) = M.pure a := rfl
@[simp] theorem truth_int : truth (.int i) = M.pure (i != 0) := rfl
@[simp] theorem truth_lst : truth (.lst xs) = M.pure !xs.isEmpty := rfl
@[simp] theorem truth_tup : truth (.tup xs) = M.pure !xs.isEmpty := rfl
@[simp] theorem truth_non : truth .non = M.pure false := rfl
@[simp] theorem bin_add' : binop .add (.int i) (.int j) = M.pure (.int (i + j)) := rfl
@[simp] theorem bin_sub' : binop .sub (.int i) (.int j) = M.pure (.int (i - j)) := rfl
@[simp] theorem neg_int : negop (.int i) = M.pure (.int (-i)) := rfl
@[simp] theorem callv_fn {C : Nat → List D → M D} {k : Nat} {as : M (List D)} : callvop C as (.fn k) = M.bind as (C k) := rfl
@[simp] theorem isx_exn {K : Nat → D} {q : Nat} : isxop K q .exn = (match K xk with
    | .int c => M.pure (.bl (c == (q : Int)))
    | _ => M.bad) := rfl
@[simp] theorem ziplop_lst : ziplop (.lst xs) (.lst ys) = M.pure (zipD xs ys) := rfl
@[simp] theorem lt_int : cmpop .lt (.int i) (.int j) = M.pure (.bl (decide (i < j))) := rfl
@[simp] theorem le_int : cmpop .le (.int i) (.int j) = M.pure (.bl (decide (i ≤ j))) := rfl
@[simp] theorem gt_int : cmpop .gt (.int i) (.int j) = M.pure (.bl (decide (j < i))) := rfl
@[simp] theorem ge_int : cmpop .ge (.int i) (.int j) = M.pure (.bl (decide (j ≤ i))) := rfl
@[simp] theorem isB_bl : cmpop .isB (.bl a) (.bl b) = M.pure (.bl (decide (a = b))) := rfl
@[simp] theorem notB_bl : cmpop .notB (.bl a) (.bl b) = M.pure (.bl (!decide (a = b))) := rfl
@[simp] theorem eq_int : cmpop .eq (.int i) (.int j) = M.pure (.bl (i == j)) := rfl
@[simp] theorem ne_int : cmpop .ne (.int i) (.int j) = M.pure (.bl (!(i == j))) := rfl
@[simp] theorem chain_t (c : Cp) (d : D) : chainop c d m (.bl true) = M.bind m fun z => cmpop c d z := rfl
@[simp] theorem chain_f (c : Cp) (d : D) : chainop c d m (.bl false) = M.pure (.bl false) := rfl
theorem chain_b (c : Cp) (d : D) : chainop c d m (.bl a) = if a = true then M.bind m fun z => cmpop c d z else M.pure (.bl false) := by cases a <;> rfl
@[simp] theorem seqL_lst : seqL (.lst xs) = M.pure xs := rfl
@[simp] theorem seqA_lst : seqA (.lst xs) = M.pure xs := rfl
@[simp] theorem seqA_tup : seqA (.tup xs) = M.pure xs := rfl
@[simp] theorem still_lst : still (.lst xs) = M.pure xs := rfl
@[simp] theorem still_tup : still (.tup xs) = M.pure xs := rfl
@[simp] theorem asInt_int : asInt (.int i) = M.pure (some i) := rfl
@[simp] theorem idx_int (d : D) : idxop d (.int i) = M.bind (seqA d) fun xs => M.opt (L2.atI xs i) := rfl
@[simp] theorem boolV_at (d : D) : boolV .And true d m = m := rfl
@[simp] theorem boolV_af (d : D) : boolV .And false d m = M.pure d := rfl
@[simp] theorem boolV_ot (d : D) : boolV .Or true d m = M.pure d := rfl
@[simp] theorem boolV_of (d : D) : boolV .Or false d m = m := rfl
@[simp] theorem boolT_at (m : M Bool) : boolT .And true m = m := rfl
@[simp] theorem boolT_af (m : M Bool) : boolT .And false m = M.pure false := rfl
@[simp] theorem boolT_ot (m : M Bool) : boolT .Or true m = M.pure true := rfl
@[simp] theorem boolT_of (m : M Bool) : boolT .Or false m = m := rfl
theorem boolT_and (m : M Bool) : boolT .And a m = if a = true then m else M.pure false := by cases a <;> rfl
theorem boolT_or (m : M Bool) : boolT .Or a m = if a = true then M.pure true else m := by cases a <;> rfl
theorem boolV_and (d : D) : boolV .And a d m = if a = true then m else M.pure d := by cases a <;> rfl
theorem boolV_or (d : D) : boolV .Or a d m = if a = true then M.pure d else m := by cases a <;> rfl
@[simp] theorem bf_len (d : D) : bfop .len [d] = M.bind (seqA d) fun xs => M.pure (.int xs.length) := rfl
@[simp] theorem bf_abs : bfop .abs [.int i] = M.pure (.int (if i < 0 then -i else i)) := rfl
@[simp] theorem bf_int : bfop .int [.int i] = M.pure (.int i) := rfl
@[simp] theorem bf_min : bfop .min2 [.int i, .int j] = M.pure (.int (if j < i then j else i)) := rfl
@[simp] theorem bf_max : bfop .max2 [.int i, .int j] = M.pure (.int (if j > i then j else i)) := rfl
@[simp] theorem bf_gcd : bfop .gcd [.int i, .int j] = M.pure (.int ((Nat.gcd i.natAbs j.natAbs : Nat) : Int)) := Eq.trans (Eq.refl _) (Eq.refl _)
@[simp] theorem bf_tuple (d : D) : bfop .tuple [d] = M.bind (seqA d) fun xs => M.pure (.tup xs) := rfl
@[simp] theorem bf_sum (d : D) : bfop .sum [d] = M.bind (seqA d) fun xs => M.bind (M.opt (intsOf xs)) fun is => M.pure (.int is.sum) := rfl
@[simp] theorem bf_minD (d : D) : bfop .minD [d] = M.bind (seqA d) fun xs => M.opt (bestOf (fun y a => PySem.W.dataLt y a) xs) := rfl
@[simp] theorem bf_maxD (d : D) : bfop .maxD [d] = M.bind (seqA d) fun xs => M.opt (bestOf (fun y a => PySem.W.dataLt a y) xs) := rfl
@[simp] theorem bf_min1 (d : D) : bfop .min1 [d] = M.bind (seqA d) fun xs => M.bind (M.opt (intsOf xs)) fun is => M.bind (M.opt is.min?) fun i => M.pure (.int i) := rfl
@[simp] theorem bf_max1 (d : D) : bfop .max1 [d] = M.bind (seqA d) fun xs => M.bind (M.opt (intsOf xs)) fun is => M.bind (M.opt is.max?) fun i => M.pure (.int i) := rfl
@[simp] theorem isin_ii : bfop .isin [.int i, .ty "int"] = M.pure (.bl true) := rfl
@[simp] theorem isin_ib : bfop .isin [.int i, .ty "bool"] = M.pure (.bl false) := rfl
@[simp] theorem intsOf_map (is : List Int) : intsOf (is.map D.int) = some is := by
  induction is with
  | nil => rfl
  | cons i is ih =>
    show (match intsOf (is.map D.int) with
      | some is => some (i :: is)
      | none => none) = _
    rw [ih]
@[simp] theorem lenOk0 : lenOk [] = M.pure [] := rfl
@[simp] theorem len1 (d : D) : lenOk [d] = M.pure [d] := rfl
@[simp] theorem len2 (d e : D) : lenOk [d, e] = M.pure [d, e] := rfl
@[simp] theorem len3 (d e f : D) : lenOk [d, e, f] = M.pure [d, e, f] := rfl
@[simp] theorem len4 (d e f g : D) : lenOk [d, e, f, g] = M.pure [d, e, f, g] := rfl
theorem lenOk_le (h : xs.length ≤ 8000) : lenOk xs = M.pure xs := by
  unfold lenOk
  rw [if_pos (by rw [sizeLine_eq]; omega)]
@[simp] theorem atI0 {α : Type} (a : α) (l : List α) : L2.atI (a :: l) 0 = some a := L2.atI_nat (j := 0) rfl
@[simp] theorem atI1 {α : Type} (a b : α) (l : List α) : L2.atI (a :: b :: l) 1 = some b := L2.atI_nat (j := 1) rfl
@[simp] theorem atI2 {α : Type} (a b c : α) (l : List α) : L2.atI (a :: b :: c :: l) 2 = some c := L2.atI_nat (j := 2) rfl
theorem bin_mulS (h : -(2 ^ 64) < i ∧ i < 2 ^ 64) : binop .mul (.int i) (.int j) = M.pure (.int (i * j)) := by
  refine if_pos ?_
  simp only [Bool.or_eq_true, Bool.and_eq_true, decide_eq_true_eq]
  exact .inl h
/-- a def, called -/
theorem call_at {Kc : Nat → D} {t : Tx} {n k : Nat} {d : Dr} (hd : t.ds[k]? = some d) (h : t.prim k = none) (as : List D) (ha : as.length = d.ps.length) :
    tabF Kc t (n + 1) k as = popM (run (tabF Kc t n) Kc d.N.length d.body as) := by
  have := callF_at (Kc := Kc) (ds := t.ds.map Dr.df) (p := t.prim) (n := n) (k := k) (d := d.df) h (by rw [List.getElem?_map, hd]; rfl)
  show callF Kc (t.ds.map Dr.df) t.prim (n + 1) k as = _
  rw [this]
  exact if_pos ha
theorem run_eq {C : Nat → List D → M D} {K : Nat → D} {n : Nat} {b : Sz} {as : List D} : run C K n b as = M.bind (evS C K b (as.map some ++ List.replicate (n - as.length) none)) fun o => match o with
  | .nx _ => M.pure .non
  | .rt d => M.pure d
  | _ => M.bad := rfl
end
/-! ### loops -/
section
variable {σ : Type}
/-- a loop whose turns go on -/
theorem forGo_fold {tg : Tz} {b : Env → M Out} {emb : σ → Env} {g : σ → D → σ} : ∀ (ds : List D) (s : σ), (∀ s, ∀ d ∈ ds, (M.bind (M.opt (bindT tg d (emb s))) fun ρ' => b ρ') = M.pure (.nx (emb (g s d)))) → forGo tg b ds (emb s) = M.pure (.nx (emb (ds.foldl g s)))
  | [], s, _ => rfl
  | d :: ds, s, h => by
    have h1 := h s d (List.mem_cons_self ..)
    show (M.bind (M.opt (bindT tg d (emb s))) fun ρ' => M.bind (b ρ') _) = _
    rw [← bb, h1, pb]
    exact forGo_fold ds (g s d) fun s e he => h s e (List.mem_cons_of_mem _ he)
theorem lcGo_map {f : D → M (Option D)} {g : D → Option D} : ∀ (ds : List D), (∀ d ∈ ds, f d = M.pure (g d)) → lcGo ds f = M.pure (ds.filterMap g)
  | [], _ => rfl
  | d :: ds, h => by
    show (M.bind (f d) fun r => M.bind (lcGo ds f) fun rs => M.pure (match r with
      | some e => e :: rs
      | none => rs)) = _
    rw [h d (List.mem_cons_self ..), pb, lcGo_map ds fun e he => h e (List.mem_cons_of_mem _ he), pb, List.filterMap_cons]
    cases g d <;> rfl
@[simp] theorem calmM_pure {α : Type} (a : α) : calmM (M.pure a) = M.pure a := rfl
@[simp] theorem calmM_ite {α : Type} {c : Prop} [Decidable c] (a b : M α) : calmM (if c then a else b) = if c then calmM a else calmM b := by
  by_cases q : c
  · rw [if_pos q, if_pos q]
  · rw [if_neg q, if_neg q]
end
end DL
/-! DL16: the laws' common defs: sort, like -/
namespace DL
open PySem
theorem mem2 {l a b : Int} : cmpop .mem (.int l) (.tup [.int a, .int b]) = M.pure (.bl (a == l || b == l)) := by
  show M.pure (D.bl (a == l || (b == l || false))) = _
  rw [Bool.or_false]
theorem rng1_ok {n : Int} (h : 0 ≤ n ∧ n ≤ 1000000) : rng1 (.int n) = M.pure ((List.range n.toNat).map fun (i : Nat) => D.int (i : Int)) := by
  refine if_pos ?_
  unfold lim
  omega
theorem bin_fdivS {i j : Int} (h : j ≠ 0 ∧ j.natAbs < 1073741824) : binop .fdiv (.int i) (.int j) = M.pure (.int (i.fdiv j)) := if_pos h
theorem mem_rng {s : Nat} {d : D} (h : d ∈ (List.range s).map fun (i : Nat) => D.int (i : Int)) : ∃ i : Nat, i < s ∧ d = .int i := by
  obtain ⟨i, h1, h2⟩ := List.mem_map.mp h
  exact ⟨i, List.mem_range.mp h1, h2.symm⟩
@[simp] theorem isN_non {d : D} : cmpop .isN d .non = M.pure (D.bl d.isNon) := rfl
@[simp] theorem notN_non {d : D} : cmpop .notN d .non = M.pure (D.bl (!d.isNon)) := rfl
theorem isinF {d : D} {n t : String} (h1 : tyName d = some t) (h2 : tyOk n = true) : bfop .isin [d, .ty n] = M.pure (.bl (isTy t n)) := by
  show (match tyName d with
    | some t => if tyOk n then M.pure (D.bl (isTy t n)) else M.bad
    | none => M.bad) = _
  rw [h1]
  exact if_pos h2
theorem isinE {d : D} {n : String} : bfop .isin [d, .ty n] = match tyName d with
    | some t => if tyOk n then M.pure (D.bl (isTy t n)) else M.bad
    | none => M.bad := rfl
def sortB : Sz := (.cons (.ite (.bool .Or (.cons (.cmp .isN (.var 0) .non) (.cons (.bf .isin (.cons (.var 0) (.cons (.gty "bool") .nil))) .nil))) (.cons (.ret (.ife (.cmp .isN (.var 0) .non) (.int 0) (.int 1))) .nil) .nil) (.cons (.ite (.bool .Or (.cons (.bf .isin (.cons (.var 0) (.cons (.gty "int") .nil))) (.cons (.bf .isin (.cons (.var 0) (.cons (.gty "str") .nil))) .nil))) (.cons (.ret (.ife (.bf .isin (.cons (.var 0) (.cons (.gty "int") .nil))) (.int 2) (.int 3))) .nil) .nil) (.cons (.ret (.ife (.bf .isin (.cons (.var 0) (.cons (.gty "tuple") .nil))) (.int 4) (.ife (.bf .isin (.cons (.var 0) (.cons (.gty "list") .nil))) (.int 5) (.int 6)))) .nil)))
def likeB (kS kL : Nat) : Sz := (.cons (.set 2 (.call kS (.cons (.var 1) .nil))) (.cons (.ite (.bool .Or (.cons (.cmp .ne (.call kS (.cons (.var 0) .nil)) (.var 2)) (.cons (.cmp .eq (.var 2) (.int 6)) .nil))) (.cons (.ret (.bl false)) .nil) .nil) (.cons (.ite (.cmp .mem (.var 2) (.tup (.cons (.int 4) (.cons (.int 5) .nil)))) (.cons (.ret (.bool .And (.cons (.cmp .eq (.bf .len (.cons (.var 0) .nil)) (.bf .len (.cons (.var 1) .nil))) (.cons (.cmp .eq (.lc (.tp (.cons (.nm 3) (.cons (.nm 4) .nil))) (.zip (.var 0) (.var 1)) (.not (.call kL (.cons (.var 3) (.cons (.var 4) .nil)))) (.int 1)) (.lst .nil)) .nil)))) .nil) .nil) (.cons (.ret (.cmp .eq (.var 0) (.var 1))) .nil))))
def srt : D → Option Int
  | .non => some 0
  | .bl _ => some 1
  | .int _ => some 2
  | .str _ => some 3
  | .tup _ => some 4
  | .lst _ => some 5
  | _ => none
structure LikeAt (t : Tx) (kS kL : Nat) : Prop where
  s : ∃ d, t.ds[kS]? = some d ∧ d.ps.length = 1 ∧ d.N.length = 1 ∧ d.body = sortB
  l : ∃ d, t.ds[kL]? = some d ∧ d.ps.length = 2 ∧ d.N.length = 5 ∧ d.body = likeB kS kL
  ps : t.prim kS = none
  pl : t.prim kL = none
section
variable {Kc : Nat → D} {t : Tx} {kS kL : Nat} (A : LikeAt t kS kL)
include A
theorem sort_at (n : Nat) {v : D} {i : Int} (h : srt v = some i) : tabF Kc t (n + 1) kS [v] = M.pure (.int i) := by
  obtain ⟨d, h1, h2, h3, h4⟩ := A.s
  rw [call_at h1 A.ps _ (by rw [h2]; rfl), run_eq, h3, h4]
  have b1 : tyOk "bool" = true := by decide
  have b2 : tyOk "int" = true := by decide
  have b3 : tyOk "str" = true := by decide
  have b4 : tyOk "tuple" = true := by decide
  have b5 : tyOk "list" = true := by decide
  cases v <;> cases h <;> simp -implicitDefEqProofs [sortB, evS, DL.get, D.isNon, isinE, tyName, b1, b2, b3, b4, b5, isTy]
/-- plain data of depth at most k -/
def PL : Nat → D → Prop
  | 0, _ => False
  | k + 1, d => match d with
    | .non => True
    | .bl _ => True
    | .int _ => True
    | .str x => cmpop .eq (.str x) (.str x) = M.pure (.bl true)
    | .tup xs => xs.length ≤ 8000 ∧ ∀ x ∈ xs, PL k x
    | .lst xs => xs.length ≤ 8000 ∧ ∀ x ∈ xs, PL k x
    | _ => False
omit A in
theorem zipD_self {xs : List D} {d : D} (h : d ∈ zipD xs xs) : ∃ x ∈ xs, d = .tup [x, x] := by
  unfold zipD at h
  obtain ⟨p, hp, rfl⟩ := List.mem_map.mp h
  have : ∀ {l : List D} {p : D × D}, p ∈ l.zip l → p.1 ∈ l ∧ p.2 = p.1 := fun {l} => by
    induction l with
    | nil => intro p h; cases h
    | cons a l ih =>
      intro p h
      rw [List.zip_cons_cons] at h
      rcases List.mem_cons.mp h with rfl | h
      · exact ⟨List.mem_cons_self .., rfl⟩
      · exact ⟨List.mem_cons_of_mem _ (ih h).1, (ih h).2⟩
  obtain ⟨q1, q2⟩ := this hp
  exact ⟨p.1, q1, by rw [q2]⟩
omit A in
theorem eq_nil : cmpop .eq (.lst []) (.lst []) = M.pure (.bl true) := rfl
theorem like_at : ∀ (k n : Nat) {x : D}, PL k x → tabF Kc t (n + k + 1) kL [x, x] = M.pure (.bl true)
  | 0, n, x, h => h.elim
  | k + 1, n, x, h => by
    obtain ⟨d, h1, h2, h3, h4⟩ := A.l
    rw [call_at h1 A.pl _ (by rw [h2]; rfl), run_eq, h3, h4]
    have seq : ∀ xs : List D, xs.length ≤ 8000 → (∀ x ∈ xs, PL k x) → ∀ ρ : Env, ρ.length = 5 → lcGo (zipD xs xs) (lcTurn (.tp (.cons (.nm 3) (.cons (.nm 4) .nil))) (ev (tabF Kc t (n + (k + 1))) Kc (.not (.call kL (.cons (.var 3) (.cons (.var 4) .nil))))).t (ev (tabF Kc t (n + (k + 1))) Kc (.int 1)).e ρ) = M.pure [] := fun xs hl hx ρ hρ => by
      obtain ⟨a, b, c', d', e, rfl⟩ : ∃ a b c d e, ρ = [a, b, c, d, e] := by
        match ρ, hρ with
        | [a, b, c, d, e], _ => exact ⟨a, b, c, d, e, rfl⟩
      rw [lcGo_map (g := fun _ => none)]
      · rw [show (zipD xs xs).filterMap (fun _ => (none : Option D)) = [] from by simp]
      · intro dd hd
        obtain ⟨x, hx', rfl⟩ := zipD_self hd
        have ih := like_at k n (hx x hx')
        have rs : res x = M.pure x := by
          have := hx x hx'
          match k, x, this with
          | k + 1, .non, _ => rfl
          | k + 1, .bl _, _ => rfl
          | k + 1, .int _, _ => rfl
          | k + 1, .str _, _ => rfl
          | k + 1, .tup _, _ => rfl
          | k + 1, .lst _, _ => rfl
        have ih' : tabF Kc t (n + (k + 1)) kL [x, x] = M.pure (.bl true) := ih
        simp -implicitDefEqProofs [lcTurn, wipeE, Tz.slots, bindT, bindTs, DL.get, rs, ih']
    have so := fun {v i} (hv : srt v = some i) => sort_at (Kc := Kc) A (n + k) hv
    have so' : ∀ {v : D} {i : Int}, srt v = some i → tabF Kc t (n + (k + 1)) kS [v] = M.pure (.int i) := so
    have zl : ∀ xs : List D, xs.length ≤ 8000 → lenOk (zipD xs xs) = M.pure (zipD xs xs) := fun xs hl => lenOk_le (by unfold zipD; simpa using hl)
    match x, h with
    | .non, _ => simp -implicitDefEqProofs [likeB, evS, DL.get, setE, so' (v := .non) rfl, mem2, show cmpop .eq (.non) (.non) = M.pure (.bl true) from rfl]
    | .bl b, _ => simp -implicitDefEqProofs [likeB, evS, DL.get, setE, so' (v := .bl b) rfl, mem2, show cmpop .eq (.bl b) (.bl b) = M.pure (.bl true) from by cases b <;> rfl]
    | .int i, _ => simp -implicitDefEqProofs [likeB, evS, DL.get, setE, so' (v := .int i) rfl, mem2]
    | .str s, h =>
      have h : cmpop .eq (.str s) (.str s) = M.pure (.bl true) := h
      simp -implicitDefEqProofs [likeB, evS, DL.get, setE, so' (v := .str s) rfl, mem2, h]
    | .tup xs, h =>
      have hz : zipop (.tup xs) (.tup xs) = M.pure (zipD xs xs) := rfl
      simp -implicitDefEqProofs [likeB, evS, DL.get, setE, so' (v := .tup xs) rfl, mem2, hz, zl xs h.1, seq xs h.1 h.2 [some (.tup xs), some (.tup xs), some (.int 4), none, none] rfl, eq_nil]
    | .lst xs, h =>
      have hz : zipop (.lst xs) (.lst xs) = M.pure (zipD xs xs) := rfl
      simp -implicitDefEqProofs [likeB, evS, DL.get, setE, so' (v := .lst xs) rfl, mem2, hz, zl xs h.1, seq xs h.1 h.2 [some (.lst xs), some (.lst xs), some (.int 5), none, none] rfl, eq_nil]
end
end DL
/-! DL17: runs with draws and memory: weakest preconditions -/
namespace DL
open PySem
theorem T.good_bind' {α β : Type} {f : α → T β} {Q : β → Prop} : ∀ {t : T α}, t.good (fun a => (f a).good Q) → (t.bind f).good Q
  | .ret a, h => h
  | .roll n k, h => fun r hr => T.good_bind' (h r hr)
/-- from μ, whatever is drawn, m ends well -/
structure wp {α : Type} (m : M α) (μ : Mem) (Q : α → Mem → Prop) : Prop where
  g : (m μ).good fun r => ∃ a μ', r = .ok a μ' ∧ Q a μ'
section
variable {α β : Type} {μ : Mem}
theorem wp_pure {a : α} {Q : α → Mem → Prop} (h : Q a μ) : wp (M.pure a) μ Q := ⟨a, μ, rfl, h⟩
theorem wp_bind {m : M α} {f : α → M β} {Q : β → Mem → Prop} (h : wp m μ fun a μ' => wp (f a) μ' Q) : wp (M.bind m f) μ Q := by
  refine ⟨T.good_bind' (T.good_mono (fun r hr => ?_) h.g)⟩
  obtain ⟨a, μ', rfl, h⟩ := hr
  exact h.g
theorem wp_mono {m : M α} {Q Q' : α → Mem → Prop} (h : wp m μ Q) (hq : ∀ a μ', Q a μ' → Q' a μ') : wp m μ Q' := ⟨T.good_mono (fun r ⟨a, μ', e, h⟩ => ⟨a, μ', e, hq a μ' h⟩) h.g⟩
theorem wp_of {m : M α} {Q : α → Mem → Prop} {a : α} {μ' : Mem} (e : m μ = .ret (.ok a μ')) (h : Q a μ') : wp m μ Q := by
  refine ⟨?_⟩
  rw [e]
  exact ⟨a, μ', rfl, h⟩
/-- no ref leads out of the memory -/
def clo (μ : Mem) : Prop := μ.all (Ob.noRef μ.length) = true
theorem wp_pop {m : M D} {Q : D → Mem → Prop} (h : wp m μ fun a μ' => (a.noRef μ.length && (μ'.take μ.length).all (Ob.noRef μ.length)) = true ∧ Q a (μ'.take μ.length)) : wp (popM m) μ Q := by
  refine ⟨T.good_bind' (T.good_mono (fun r hr => ?_) h.g)⟩
  obtain ⟨a, μ', rfl, h1, h2⟩ := hr
  dsimp only
  rw [if_pos h1]
  exact ⟨a, _, rfl, h2⟩
/-- the memory is as it was, up to what was made -/
theorem wp_pop' {m : M D} {Q : D → Mem → Prop} (hc : clo μ) (h : wp m μ fun a μ' => a.noRef μ.length = true ∧ (∃ more, μ' = μ ++ more) ∧ Q a μ) : wp (popM m) μ Q := by
  refine wp_pop (wp_mono h fun a μ' ⟨h1, ⟨more, h2⟩, h3⟩ => ?_)
  have e : μ'.take μ.length = μ := by rw [h2, List.take_left']; rfl
  rw [e]
  exact ⟨by rw [h1]; exact hc, h3⟩
/-- what is made is kept, or nothing was made -/
theorem wp_popK {m : M D} {Q : D → Mem → Prop} (h : wp m μ fun a μ' => Q a μ' ∧ ((a.noRef μ.length && (μ'.take μ.length).all (Ob.noRef μ.length)) = false ∨ μ'.length ≤ μ.length)) : wp (popM m) μ Q := by
  refine ⟨T.good_bind' (T.good_mono (fun r hr => ?_) h.g)⟩
  obtain ⟨a, μ', rfl, h1, h2⟩ := hr
  dsimp only
  rcases h2 with h2 | h2
  · rw [h2]
    exact ⟨a, _, rfl, h1⟩
  · by_cases c : (a.noRef μ.length && (μ'.take μ.length).all (Ob.noRef μ.length)) = true
    · rw [if_pos c, List.take_of_length_le h2]
      exact ⟨a, _, rfl, h1⟩
    · rw [if_neg c]
      exact ⟨a, _, rfl, h1⟩
theorem wp_cup {ns : List Int} {Q : D → Mem → Prop} (hn : ns.length ≤ 63) (h : Q (.ref μ.length) (μ ++ [.cup])) : wp (primCup [.scr ns]) μ Q := by
  show wp (if ns.length ≤ 63 then alloc .cup else M.bad) μ Q
  rw [if_pos hn]
  exact ⟨_, _, rfl, h⟩
theorem wp_roll {n : Nat} {many : Int} {Q : D → Mem → Prop} (hc : μ[n]? = some .cup) (hm : 0 < many ∧ many < 2 ^ 62) (h : ∀ r : Nat, (r : Int) < many → Q (.int (r : Int)) μ) : wp (primRoll [.ref n, .int many]) μ Q := by
  have hm2 : 0 < many ∧ many.natAbs.log2 < 9000 := ⟨hm.1, by
    have : many.natAbs.log2 < 62 := (Nat.log2_lt (by omega)).mpr (by omega)
    omega⟩
  refine ⟨?_⟩
  unfold primRoll
  dsimp only
  rw [hc]
  dsimp only
  rw [if_pos hm2]
  intro r hr
  exact ⟨_, _, rfl, h r (by omega)⟩
theorem wp_res {n : Nat} {o : Ob} {Q : D → Mem → Prop} (hc : μ[n]? = some o) (ho : ∀ d, o ≠ .fro d) (h : Q (.ref n) μ) : wp (res (.ref n)) μ Q := by
  refine wp_of ?_ h
  unfold res
  dsimp only
  rw [hc]
  cases o with
  | fro d => exact absurd rfl (ho d)
  | _ => rfl
theorem wp_alloc {o : Ob} {Q : D → Mem → Prop} (h : Q (.ref μ.length) (μ ++ [o])) : wp (alloc o) μ Q := ⟨_, _, rfl, h⟩
theorem wp_dget {n : Nat} {kvs : List (D × D)} {ds : List D} {v : D} {Q : D → Mem → Prop} (hc : μ[n]? = some (.dT kvs)) (hv : getTo kvs ds = some v) (h : Q v μ) : wp (dgetop (.ref n) (.tup ds)) μ Q := by
  refine wp_of ?_ h
  unfold dgetop
  dsimp only
  rw [hc]
  dsimp only
  rw [hv]
  rfl
theorem wp_dput {n : Nat} {kvs : List (D × D)} {ds : List D} {x : D} {ks : List L2.Key} {Q : Unit → Mem → Prop} (hc : μ[n]? = some (.dT kvs)) (hk : keysOf ds = some ks) (hl : kvs.length < sizeLine) (h : Q () (μ.set n (.dT (putD (hasT ks) kvs (.tup ds) x)))) : wp (storeD (.ref n) (.tup ds) x) μ Q := by
  refine wp_of ?_ h
  unfold storeD putTo
  dsimp only
  rw [hc]
  dsimp only
  rw [hk]
  show setOb n (if _ then _ else _) μ = _
  rw [if_pos hl]
  rfl
@[simp] theorem throw_bind {α β : Type} {c : Nat} (f : α → M β) : M.bind (throwM c) f = throwM c := rfl
@[simp] theorem popM_throw {c : Nat} : popM (throwM c) = throwM c := rfl
/-- x(lambda: ..) where an exception is raised -/
theorem wp_err {f : List D → M D} {c : Nat} {x : Str} {Q : D → Mem → Prop} (hc : clo μ) (hf : f [.int c] = M.pure (.str x)) (h : Q (.str x) μ) : wp (errM (throwM c) f) μ Q := by
  refine wp_of ?_ h
  show (f [.int c] μ).bind (errEnd μ.length) = _
  rw [hf]
  show (if (μ.take μ.length).all (Ob.noRef μ.length) = true then T.ret (R.ok (D.str x) (μ.take μ.length)) else T.ret R.bad) = _
  rw [List.take_length]
  exact if_pos hc
theorem wp_errP {f : List D → M D} {d : D} {x : Str} {Q : D → Mem → Prop} (hc : clo μ) (hf : f [] = M.pure (.str x)) (h : Q (.str x) μ) : wp (errM (M.pure d) f) μ Q := by
  refine wp_of ?_ h
  show (f [] μ).bind (errEnd μ.length) = _
  rw [hf]
  show (if (μ.take μ.length).all (Ob.noRef μ.length) = true then T.ret (R.ok (D.str x) (μ.take μ.length)) else T.ret R.bad) = _
  rw [List.take_length]
  exact if_pos hc
/-- a loop, by what holds ahead of each turn -/
theorem wp_forI {tg : Tz} {b : Env → M Out} {ds : List D} {Q : Out → Mem → Prop} (I : Nat → Env → Mem → Prop)
    (step : ∀ i d ρ μ, ds[i]? = some d → I i ρ μ → wp (M.bind (M.opt (bindT tg d ρ)) b) μ fun o μ' => match o with
      | .nx ρ' => I (i + 1) ρ' μ'
      | .ct ρ' => I (i + 1) ρ' μ'
      | .bk ρ' => Q (.nx ρ') μ'
      | .rt d => Q (.rt d) μ') (hend : ∀ ρ μ, I ds.length ρ μ → Q (.nx ρ) μ) {ρ : Env} (h0 : I 0 ρ μ) : wp (forGo tg b ds ρ) μ Q := by
  have key : ∀ (es pre : List D) (ρ : Env) (μ : Mem), ds = pre ++ es → I pre.length ρ μ → wp (forGo tg b es ρ) μ Q := by
    intro es
    induction es with
    | nil =>
      intro pre ρ μ he h
      refine wp_pure (hend ρ μ ?_)
      rw [he, List.append_nil]
      exact h
    | cons d es ih =>
      intro pre ρ μ he h
      have hd : ds[pre.length]? = some d := by
        rw [he, List.getElem?_append_right (Nat.le_refl _), Nat.sub_self]
        rfl
      have st := step pre.length d ρ μ hd h
      show wp (M.bind (M.opt (bindT tg d ρ)) fun ρ' => M.bind (b ρ') _) μ Q
      rw [← bb]
      refine wp_bind (wp_mono st fun o μ' ho => ?_)
      have he2 : ds = (pre ++ [d]) ++ es := by rw [he, List.append_assoc]; rfl
      have hl2 : (pre ++ [d]).length = pre.length + 1 := by simp
      cases o with
      | nx ρ' => exact ih (pre ++ [d]) ρ' μ' he2 (by rw [hl2]; exact ho)
      | ct ρ' => exact ih (pre ++ [d]) ρ' μ' he2 (by rw [hl2]; exact ho)
      | bk ρ' => exact wp_pure ho
      | rt d => exact wp_pure ho
  exact key ds [] ρ μ rfl h0
/-- a comprehension, by what holds ahead of each turn -/
theorem wp_lcI {f : D → M (Option D)} {ds : List D} {Q : List D → Mem → Prop} (I : Nat → List D → Mem → Prop)
    (step : ∀ i d xs μ, ds[i]? = some d → I i xs μ → wp (f d) μ fun o μ' => I (i + 1) (xs ++ o.toList) μ') (hend : ∀ xs μ, I ds.length xs μ → Q xs μ) (h0 : I 0 [] μ) : wp (lcGo ds f) μ Q := by
  have key : ∀ (es pre xs : List D) (μ : Mem), ds = pre ++ es → I pre.length xs μ → wp (lcGo es f) μ fun ys μ' => Q (xs ++ ys) μ' := by
    intro es
    induction es with
    | nil =>
      intro pre xs μ he h
      refine wp_pure ?_
      rw [List.append_nil]
      refine hend xs μ ?_
      rw [he, List.append_nil]
      exact h
    | cons d es ih =>
      intro pre xs μ he h
      have hd : ds[pre.length]? = some d := by
        rw [he, List.getElem?_append_right (Nat.le_refl _), Nat.sub_self]
        rfl
      refine wp_bind (wp_mono (step pre.length d xs μ hd h) fun o μ' ho => ?_)
      have he2 : ds = (pre ++ [d]) ++ es := by rw [he, List.append_assoc]; rfl
      refine wp_bind (wp_mono (ih (pre ++ [d]) (xs ++ o.toList) μ' he2 (by rw [show (pre ++ [d]).length = pre.length + 1 from by simp]; exact ho)) fun ys μ2 hy => ?_)
      refine wp_pure ?_
      cases o with
      | none => simpa using hy
      | some e => simpa using hy
  exact wp_mono (key ds [] [] μ rfl h0) fun ys μ' h => by simpa using h
theorem call_cup {Kc : Nat → D} {t : Tx} {n k : Nat} (h : k = t.c) : tabF Kc t (n + 1) k = primCup := callF_prim (by unfold Tx.prim; rw [if_pos h])
theorem call_roll {Kc : Nat → D} {t : Tx} {n k : Nat} (h : k = t.r) (hc : k ≠ t.c) : tabF Kc t (n + 1) k = primRoll := callF_prim (by unfold Tx.prim; rw [if_neg hc, if_pos h])
theorem call_err {Kc : Nat → D} {t : Tx} {n k : Nat} {e : Er} (h : t.prim k = some (errC t.exs e)) : tabF Kc t (n + 1) k = errC t.exs e := callF_prim h
theorem good_of_wp {N L : Nat} {t : Tx} {ks : List (Str × Kon)} (h : ∀ ns : List Int, ns.length ≤ 63 → wp (α := D) (tabF (kcOf ks) t N L [.scr ns]) [] fun a _ => a = .bl true) : good N t ks L := fun ns hn => by
  refine DL.T.good_mono (fun q hq => ?_) (h ns hn).g
  obtain ⟨a, μ, e, rfl⟩ := hq
  exact ⟨μ, e⟩
end
/-! ### runs that leave the memory as it is -/
def At {α : Type} (μ : Mem) (m : M α) (a : α) : Prop := m μ = .ret (.ok a μ)
section
variable {α β : Type} {μ : Mem}
theorem At_pure {a : α} : At μ (M.pure a) a := rfl
theorem At_bind {m : M α} {f : α → M β} {a : α} {b : β} (h : At μ m a) (h2 : At μ (f a) b) : At μ (M.bind m f) b := by
  show (m μ).bind (M.andThen f) = _
  rw [show m μ = _ from h]
  exact h2
theorem At_pop {m : M D} {a : D} (h : At μ m a) : At μ (popM m) a := by
  show (m μ).bind _ = _
  rw [show m μ = _ from h]
  show (if _ then T.ret (R.ok a (μ.take μ.length)) else T.ret (R.ok a μ)) = _
  rw [List.take_length]
  exact ite_self _
theorem At_calm {m : M α} {a : α} (h : At μ m a) : At μ (calmM m) a := by
  show (m μ).bind _ = _
  rw [show m μ = _ from h]
  rfl
theorem At_lc {f : D → M (Option D)} {g : D → Option D} : ∀ (ds : List D), (∀ d ∈ ds, At μ (f d) (g d)) → At μ (lcGo ds f) (ds.filterMap g)
  | [], _ => rfl
  | d :: ds, h => by
    refine At_bind (h d (List.mem_cons_self ..)) (At_bind (At_lc ds fun e he => h e (List.mem_cons_of_mem _ he)) ?_)
    rw [List.filterMap_cons]
    cases g d <;> rfl
theorem At_res {n : Nat} {o : Ob} (hc : μ[n]? = some o) (ho : ∀ d, o ≠ .fro d) : At μ (res (.ref n)) (.ref n) := by
  unfold At res
  dsimp only
  rw [hc]
  cases o with
  | fro d => exact absurd rfl (ho d)
  | _ => rfl
theorem At_dget {n : Nat} {kvs : List (D × D)} {ds : List D} {v : D} (hc : μ[n]? = some (.dT kvs)) (hv : getTo kvs ds = some v) : At μ (dgetop (.ref n) (.tup ds)) v := by
  unfold At dgetop
  dsimp only
  rw [hc]
  dsimp only
  rw [hv]
  rfl
theorem wp_at {m : M α} {a : α} {Q : α → Mem → Prop} (h : At μ m a) (q : Q a μ) : wp m μ Q := wp_of h q
end
/-! ### dicts with pairs of ints as keys -/
def ent (L : Int × Int → D) (p : Int × Int) : D × D := (.tup [.int p.1, .int p.2], L p)
def kyI (p : Int × Int) : List L2.Key := [.inl p.1, .inl p.2]
theorem keys2 (p : Int × Int) : keysOf [.int p.1, .int p.2] = some (kyI p) := rfl
theorem hasT_ent (L : Int × Int → D) (p q : Int × Int) : hasT (kyI p) (ent L q) = decide (q = p) := by
  show decide (some (kyI q) = some (kyI p)) = _
  by_cases h : q = p
  · subst h; simp
  · rw [decide_eq_false h]
    refine decide_eq_false fun e => h ?_
    have e2 := Option.some.inj e
    unfold kyI at e2
    injection e2 with e3 e4
    injection e4 with e5 e6
    injection e3 with e7
    injection e5 with e8
    exact Prod.ext e7 e8
theorem get_ent {L : Int × Int → D} {p : Int × Int} : ∀ {l : List (Int × Int)}, p ∈ l → getTo (l.map (ent L)) [.int p.1, .int p.2] = some (L p)
  | [], h => nomatch h
  | q :: l, h => by
    have ih := fun h => get_ent (L := L) (p := p) (l := l) h
    unfold getTo at ih ⊢
    rw [keys2] at ih ⊢
    simp only [Option.bind_some] at ih ⊢
    unfold getD at ih ⊢
    rw [List.map_cons, List.find?_cons, hasT_ent]
    by_cases e : q = p
    · subst e
      simp [ent]
    · rw [decide_eq_false e]
      exact ih ((List.mem_cons.mp h).resolve_left fun z => e z.symm)
theorem any_ent {L : Int × Int → D} {p : Int × Int} : ∀ {l : List (Int × Int)}, p ∉ l → (l.map (ent L)).any (hasT (kyI p)) = false
  | [], _ => rfl
  | q :: l, h => by
    rw [List.map_cons, List.any_cons, hasT_ent, any_ent fun z => h (List.mem_cons_of_mem _ z), decide_eq_false fun e => h (by rw [e]; exact List.mem_cons_self), Bool.or_false]
theorem put_ent {L : Int × Int → D} {p : Int × Int} {l : List (Int × Int)} (h : p ∉ l) : putD (hasT (kyI p)) (l.map (ent L)) (.tup [.int p.1, .int p.2]) (L p) = (l ++ [p]).map (ent L) := by
  unfold putD
  rw [any_ent h, if_neg Bool.false_ne_true, List.map_append]
  rfl
/-- all (a, b), b ≤ a < n -/
def prs (n : Nat) : List (Int × Int) := (List.range n).flatMap fun a => (List.range (a + 1)).map fun (b : Nat) => ((a : Int), (b : Int))
theorem prs_succ (n : Nat) : prs (n + 1) = prs n ++ (List.range (n + 1)).map fun (b : Nat) => ((n : Int), (b : Int)) := by
  unfold prs
  rw [List.range_succ, List.flatMap_append]
  simp [List.range_succ]
theorem mem_prs {n : Nat} {a b : Int} : (a, b) ∈ prs n ↔ 0 ≤ b ∧ b ≤ a ∧ a < n := by
  unfold prs
  simp only [List.mem_flatMap, List.mem_map, List.mem_range, Prod.mk.injEq]
  constructor
  · rintro ⟨x, hx, y, hy, rfl, rfl⟩
    omega
  · intro h
    exact ⟨a.toNat, by omega, b.toNat, by omega, by omega, by omega⟩
theorem prs_len : ∀ n : Nat, (prs n).length ≤ n * n
  | 0 => Nat.le_refl _
  | n + 1 => by
    rw [prs_succ, List.length_append, List.length_map, List.length_range]
    have := prs_len n
    rw [Nat.add_mul, Nat.mul_add]
    omega
end DL
/-! DL18: data compared, natively -/
namespace DL
open PySem
mutual
/-- plain data, at most k deep -/
def D.plain : Nat → D → Bool
  | _, .non => true
  | _, .bl _ => true
  | _, .int _ => true
  | _, .str x => PyData.strOk x
  | 0, .tup _ => false
  | 0, .lst _ => false
  | k + 1, .tup xs => D.plains k xs
  | k + 1, .lst xs => D.plains k xs
  | _, _ => false
def D.plains : Nat → List D → Bool
  | _, [] => true
  | k, x :: xs => D.plain k x && D.plains k xs
end
mutual
def D.eqP : D → D → Bool
  | .non, .non => true
  | .bl a, .bl b => a == b
  | .bl a, .int j => (if a then 1 else 0) == j
  | .int i, .bl b => i == (if b then 1 else 0)
  | .int i, .int j => i == j
  | .str x, .str y => x == y
  | .lst xs, .lst ys => D.eqPs xs ys
  | .tup xs, .tup ys => D.eqPs xs ys
  | _, _ => false
def D.eqPs : List D → List D → Bool
  | [], [] => true
  | x :: xs, y :: ys => D.eqP x y && D.eqPs xs ys
  | _, _ => false
end
mutual
theorem plain_py : ∀ (k : Nat) (d : D), D.plain k d = true → ∃ y, d.py = some y ∧ PyData.canLay0 y = true ∧ PyData.depth y ≤ k
  | k, .non, _ => ⟨.none, rfl, by simp [PyData.canLay0], by simp [PyData.depth]⟩
  | k, .bl b, _ => ⟨.bool b, rfl, by simp [PyData.canLay0], by simp [PyData.depth]⟩
  | k, .int i, _ => ⟨.int i, rfl, by simp [PyData.canLay0], by simp [PyData.depth]⟩
  | k, .str x, h => ⟨.str x, rfl, by
    unfold D.plain at h
    simpa [PyData.canLay0] using h, by simp [PyData.depth]⟩
  | 0, .tup xs, h => by simp [D.plain] at h
  | 0, .lst xs, h => by simp [D.plain] at h
  | k + 1, .tup xs, h => by
    obtain ⟨ys, e, h1, h2⟩ := plains_py k xs (by simpa [D.plain] using h)
    exact ⟨.tuple ys, by simp [D.py, e], by simpa [PyData.canLay0] using h1, by simpa [PyData.depth] using h2⟩
  | k + 1, .lst xs, h => by
    obtain ⟨ys, e, h1, h2⟩ := plains_py k xs (by simpa [D.plain] using h)
    exact ⟨.list ys, by simp [D.py, e], by simpa [PyData.canLay0] using h1, by simpa [PyData.depth] using h2⟩
  | k, .ref _, h => by cases k <;> simp [D.plain] at h
  | k, .fn _, h => by cases k <;> simp [D.plain] at h
  | k, .cls _, h => by cases k <;> simp [D.plain] at h
  | k, .ty _, h => by cases k <;> simp [D.plain] at h
  | k, .scr _, h => by cases k <;> simp [D.plain] at h
  | k, .exn, h => by cases k <;> simp [D.plain] at h
theorem plains_py : ∀ (k : Nat) (ds : List D), D.plains k ds = true → ∃ ys, D.pys ds = some ys ∧ PyData.canLayAll0 ys = true ∧ PyData.depthAll ys ≤ k
  | k, [], _ => ⟨[], rfl, by simp [PyData.canLayAll0], by simp [PyData.depthAll]⟩
  | k, d :: ds, h => by
    unfold D.plains at h
    simp only [Bool.and_eq_true] at h
    obtain ⟨y, e1, h1, h2⟩ := plain_py k d h.1
    obtain ⟨ys, e2, h3, h4⟩ := plains_py k ds h.2
    exact ⟨y :: ys, by simp [D.pys, e1, e2], by simp [PyData.canLayAll0, h1, h3], by simp [PyData.depthAll]; omega⟩
end
mutual
theorem eqP_py : ∀ (a b : D) {x y : PyData}, a.py = some x → b.py = some y → PyData.eqv x y = D.eqP a b
  | .tup xs, b, x, y, h1, h2 => by
    simp only [D.py] at h1
    cases e1 : D.pys xs with
    | none => rw [e1] at h1; cases h1
    | some us =>
      rw [e1] at h1
      cases h1
      cases b with
      | tup ys =>
        simp only [D.py] at h2
        cases e2 : D.pys ys with
        | none => rw [e2] at h2; cases h2
        | some vs =>
          rw [e2] at h2
          cases h2
          simp only [PyData.eqv, D.eqP]
          exact eqPs_py xs ys e1 e2
      | _ =>
        simp only [D.py] at h2
        first
          | (cases h2; simp [PyData.eqv, D.eqP]; done)
          | (cases h2; done)
          | (split at h2 <;> first | (cases h2; done) | (cases h2; simp [PyData.eqv, D.eqP]; done))
  | .lst xs, b, x, y, h1, h2 => by
    simp only [D.py] at h1
    cases e1 : D.pys xs with
    | none => rw [e1] at h1; cases h1
    | some us =>
      rw [e1] at h1
      cases h1
      cases b with
      | lst ys =>
        simp only [D.py] at h2
        cases e2 : D.pys ys with
        | none => rw [e2] at h2; cases h2
        | some vs =>
          rw [e2] at h2
          cases h2
          simp only [PyData.eqv, D.eqP]
          exact eqPs_py xs ys e1 e2
      | _ =>
        simp only [D.py] at h2
        first
          | (cases h2; simp [PyData.eqv, D.eqP]; done)
          | (cases h2; done)
          | (split at h2 <;> first | (cases h2; done) | (cases h2; simp [PyData.eqv, D.eqP]; done))
  | .non, b, x, y, h1, h2 => by
    cases h1
    cases b <;> simp only [D.py] at h2 <;> first
      | (cases h2; simp [PyData.eqv, D.eqP]; done)
      | (cases h2; done)
      | (split at h2 <;> first | (cases h2; done) | (cases h2; simp [PyData.eqv, D.eqP]; done))
  | .bl _, b, x, y, h1, h2 => by
    cases h1
    cases b <;> simp only [D.py] at h2 <;> first
      | (cases h2; simp [PyData.eqv, D.eqP]; done)
      | (cases h2; done)
      | (split at h2 <;> first | (cases h2; done) | (cases h2; simp [PyData.eqv, D.eqP]; done))
  | .int _, b, x, y, h1, h2 => by
    cases h1
    cases b <;> simp only [D.py] at h2 <;> first
      | (cases h2; simp [PyData.eqv, D.eqP]; done)
      | (cases h2; done)
      | (split at h2 <;> first | (cases h2; done) | (cases h2; simp [PyData.eqv, D.eqP]; done))
  | .str _, b, x, y, h1, h2 => by
    cases h1
    cases b <;> simp only [D.py] at h2 <;> first
      | (cases h2; simp [PyData.eqv, D.eqP]; done)
      | (cases h2; done)
      | (split at h2 <;> first | (cases h2; done) | (cases h2; simp [PyData.eqv, D.eqP]; done))
  | .ref _, b, x, y, h1, h2 => by cases h1
  | .fn _, b, x, y, h1, h2 => by cases h1
  | .cls _, b, x, y, h1, h2 => by cases h1
  | .ty _, b, x, y, h1, h2 => by cases h1
  | .scr _, b, x, y, h1, h2 => by cases h1
  | .exn, b, x, y, h1, h2 => by cases h1
theorem eqPs_py : ∀ (a b : List D) {x y : List PyData}, D.pys a = some x → D.pys b = some y → PyData.eqvAll x y = D.eqPs a b
  | [], [], x, y, h1, h2 => by
    cases h1
    cases h2
    simp [PyData.eqvAll, D.eqPs]
  | a :: as, [], x, y, h1, h2 => by
    cases h2
    simp only [D.pys] at h1
    split at h1
    · cases h1
      simp [PyData.eqvAll, D.eqPs]
    · cases h1
  | [], b :: bs, x, y, h1, h2 => by
    cases h1
    simp only [D.pys] at h2
    split at h2
    · cases h2
      simp [PyData.eqvAll, D.eqPs]
    · cases h2
  | a :: as, b :: bs, x, y, h1, h2 => by
    simp only [D.pys] at h1 h2
    split at h1
    · rename_i u us e1 e2
      split at h2
      · rename_i v vs e3 e4
        cases h1
        cases h2
        simp only [PyData.eqvAll, D.eqPs]
        rw [eqP_py a b e1 e3, eqPs_py as bs e2 e4]
      · cases h2
    · cases h1
end
theorem eqv_plain {a b : D} (ha : D.plain 60 a = true) (hb : D.plain 60 b = true) : D.eqv a b = some (D.eqP a b) := by
  obtain ⟨x, e1, h1, h2⟩ := plain_py 60 a ha
  obtain ⟨y, e3, h3, h4⟩ := plain_py 60 b hb
  unfold D.eqv
  rw [e1, e3]
  have s1 : SeqAt.shaped x = true := by
    unfold SeqAt.shaped
    rw [h1, decide_eq_true (by omega)]
    rfl
  have s2 : SeqAt.shaped y = true := by
    unfold SeqAt.shaped
    rw [h3, decide_eq_true (by omega)]
    rfl
  dsimp only
  rw [s1, s2, eqP_py a b e1 e3]
  rfl
theorem peek_plain {k : Nat} {a : D} (ha : D.plain k a = true) : peek a = M.pure a := by
  cases a <;> first | rfl | (cases k <;> simp [D.plain] at ha)
theorem eq_plain {a b : D} (ha : D.plain 60 a = true) (hb : D.plain 60 b = true) : cmpop .eq a b = M.pure (.bl (D.eqP a b)) := by
  show M.bind (peek a) (fun x => M.bind (peek b) fun y => eqvM x y false) = _
  rw [peek_plain ha, peek_plain hb, pb, pb, eqvM, eqv_plain ha hb]
  rfl
theorem ne_plain {a b : D} (ha : D.plain 60 a = true) (hb : D.plain 60 b = true) : cmpop .ne a b = M.pure (.bl (!D.eqP a b)) := by
  show M.bind (peek a) (fun x => M.bind (peek b) fun y => eqvM x y true) = _
  rw [peek_plain ha, peek_plain hb, pb, pb, eqvM, eqv_plain ha hb]
  rfl
theorem plains_all {k : Nat} : ∀ {ds : List D}, (∀ d ∈ ds, D.plain k d = true) → D.plains k ds = true
  | [], _ => by simp [D.plains]
  | d :: ds, h => by
    unfold D.plains
    rw [h d (List.mem_cons_self ..), plains_all fun e he => h e (List.mem_cons_of_mem _ he)]
    rfl
theorem plains_ints {k : Nat} {is : List Int} : D.plains k (is.map D.int) = true := plains_all fun d hd => by
  obtain ⟨i, _, rfl⟩ := List.mem_map.mp hd
  cases k <;> simp [D.plain]
theorem eqPs_nil {xs : List D} : D.eqPs xs [] = xs.isEmpty := by
  cases xs <;> simp [D.eqPs]
theorem At_err {μ : Mem} {f : List D → M D} {c : Nat} {x : Str} (hc : clo μ) (hf : f [.int c] = M.pure (.str x)) : At μ (errM (throwM c) f) (.str x) := by
  show (f [.int c] μ).bind (errEnd μ.length) = _
  rw [hf]
  show (if (μ.take μ.length).all (Ob.noRef μ.length) = true then T.ret (R.ok (D.str x) (μ.take μ.length)) else T.ret R.bad) = _
  rw [List.take_length]
  exact if_pos hc
theorem add_lst {xs ys : List D} (h : xs.length + ys.length ≤ 8000) : binop .add (.lst xs) (.lst ys) = M.pure (.lst (xs ++ ys)) := by
  show M.bind (if xs.length + ys.length ≤ sizeLine then M.pure (xs ++ ys) else M.bad) (fun xs => M.pure (D.lst xs)) = _
  rw [if_pos (by rw [sizeLine_eq]; omega)]
  rfl
theorem mul_lst {xs : List D} {k : Int} (h : 0 ≤ k ∧ k ≤ 1000 ∧ xs.length ≤ 8) : binop .mul (.lst xs) (.int k) = M.pure (.lst (List.replicate k.toNat xs).flatten) := by
  show M.bind (if (-(2 ^ 63) ≤ k ∧ k < 2 ^ 63) ∧ xs.length * k.toNat ≤ sizeLine then M.pure (List.replicate k.toNat xs).flatten else M.bad) (fun xs => M.pure (D.lst xs)) = _
  have : xs.length * k.toNat ≤ 8 * 1000 := Nat.mul_le_mul h.2.2 (by omega)
  rw [if_pos ⟨by omega, by rw [sizeLine_eq]; omega⟩]
  rfl
end DL
/-! DL19: runs that draw nothing, with their memory -/
namespace DL
open PySem
def Rn {α : Type} (μ : Mem) (m : M α) (a : α) (μ' : Mem) : Prop := m μ = .ret (.ok a μ')
section
variable {α β : Type} {μ μ' μ2 : Mem}
theorem Rn_pure {a : α} : Rn μ (M.pure a) a μ := rfl
theorem Rn_bind {m : M α} {f : α → M β} {a : α} {b : β} (h : Rn μ m a μ') (h2 : Rn μ' (f a) b μ2) : Rn μ (M.bind m f) b μ2 := by
  show (m μ).bind (M.andThen f) = _
  rw [show m μ = _ from h]
  exact h2
theorem Rn_at {m : M α} {a : α} (h : At μ m a) : Rn μ m a μ := h
theorem wp_rn {m : M α} {a : α} {Q : α → Mem → Prop} (h : Rn μ m a μ') (q : Q a μ') : wp m μ Q := wp_of h q
theorem At_popN {m : M D} {a : D} {more : Mem} (hc : clo μ) (ha : a.noRef μ.length = true) (h : Rn μ m a (μ ++ more)) : At μ (popM m) a := by
  show (m μ).bind _ = _
  rw [show m μ = _ from h]
  show (if (a.noRef μ.length && ((μ ++ more).take μ.length).all (Ob.noRef μ.length)) = true then T.ret (R.ok a ((μ ++ more).take μ.length)) else T.ret (R.ok a (μ ++ more))) = _
  have e : (μ ++ more).take μ.length = μ := List.take_left' rfl
  rw [e, ha, if_pos (show (true && _) = true from hc)]
theorem Rn_alloc {o : Ob} : Rn μ (alloc o) (.ref μ.length) (μ ++ [o]) := rfl
theorem Rn_res {n : Nat} {o : Ob} (hc : μ[n]? = some o) (ho : ∀ d, o ≠ .fro d) : Rn μ (res (.ref n)) (.ref n) μ := At_res hc ho
theorem Rn_resF {n : Nat} {x : D} (hc : μ[n]? = some (.fro x)) : Rn μ (res (.ref n)) x μ := by
  unfold Rn res
  dsimp only
  rw [hc]
theorem Rn_frz {n : Nat} {xs : List D} (hc : μ[n]? = some (.lst xs)) : Rn μ (frz (.ref n)) (.lst xs) (μ.set n (.fro (.lst xs))) := by
  unfold Rn frz
  dsimp only
  rw [hc]
theorem Rn_frzF {n : Nat} {x : D} (hc : μ[n]? = some (.fro x)) : Rn μ (frz (.ref n)) x μ := by
  unfold Rn frz
  dsimp only
  rw [hc]
theorem Rn_seqL {n : Nat} {xs : List D} (hc : μ[n]? = some (.lst xs)) : Rn μ (seqL (.ref n)) xs μ := by
  unfold Rn seqL
  dsimp only
  rw [hc]
theorem Rn_seqA {n : Nat} {xs : List D} (hc : μ[n]? = some (.lst xs)) : Rn μ (seqA (.ref n)) xs μ := Rn_seqL hc
theorem Rn_app {n : Nat} {xs : List D} {x : D} (hc : μ[n]? = some (.lst xs)) (hl : xs.length < 8000) : Rn μ (appL (.ref n) x) () (μ.set n (.lst (xs ++ [x]))) := by
  unfold Rn appL
  dsimp only
  rw [hc]
  dsimp only
  rw [if_pos (by rw [sizeLine_eq]; omega)]
theorem getM {l : Mem} (i : Nat) : (μ ++ l)[μ.length + i]? = l[i]? := by
  rw [List.getElem?_append_right (by omega), Nat.add_sub_cancel_left]
theorem setM {l : Mem} (i : Nat) (x : Ob) : (μ ++ l).set (μ.length + i) x = μ ++ l.set i x := by
  rw [List.set_append_right _ _ (by omega), Nat.add_sub_cancel_left]
theorem getM0 {l : Mem} : (μ ++ l)[μ.length]? = l[0]? := getM 0
theorem setM0 {l : Mem} (x : Ob) : (μ ++ l).set μ.length x = μ ++ l.set 0 x := setM 0 x
theorem At_calmR {m : M α} {a : α} (h : Rn μ m a μ') : Rn μ (calmM m) a μ' := by
  show (m μ).bind _ = _
  rw [show m μ = _ from h]
  rfl
/-- a loop, turn by turn: f tells the names and the memory ahead of the i-th turn -/
theorem Rn_for {tg : Tz} {b : Env → M Out} {ds : List D} (f : Nat → Env × Mem)
    (step : ∀ i d, ds[i]? = some d → Rn (f i).2 (M.bind (M.opt (bindT tg d (f i).1)) b) (.nx (f (i + 1)).1) (f (i + 1)).2) : Rn (f 0).2 (forGo tg b ds (f 0).1) (.nx (f ds.length).1) (f ds.length).2 := by
  have key : ∀ (es pre : List D), ds = pre ++ es → Rn (f pre.length).2 (forGo tg b es (f pre.length).1) (.nx (f ds.length).1) (f ds.length).2 := by
    intro es
    induction es with
    | nil =>
      intro pre he
      rw [he, List.append_nil]
      exact Rn_pure
    | cons d es ih =>
      intro pre he
      have hd : ds[pre.length]? = some d := by
        rw [he, List.getElem?_append_right (Nat.le_refl _), Nat.sub_self]
        rfl
      have st := step pre.length d hd
      show Rn _ (M.bind (M.opt (bindT tg d (f pre.length).1)) fun ρ' => M.bind (b ρ') _) _ _
      rw [← bb]
      refine Rn_bind st ?_
      have he2 : ds = (pre ++ [d]) ++ es := by rw [he, List.append_assoc]; rfl
      have := ih (pre ++ [d]) he2
      rw [show (pre ++ [d]).length = pre.length + 1 from by simp] at this
      exact this
  exact key ds [] rfl
theorem Rn_forCons {tg : Tz} {b : Env → M Out} {d : D} {ds : List D} {ρ ρ1 : Env} {μ1 : Mem} {o : Out} (h : Rn μ (M.bind (M.opt (bindT tg d ρ)) b) (.nx ρ1) μ1) (h2 : Rn μ1 (forGo tg b ds ρ1) o μ2) : Rn μ (forGo tg b (d :: ds) ρ) o μ2 := by
  show Rn _ (M.bind (M.opt (bindT tg d ρ)) fun ρ' => M.bind (b ρ') _) _ _
  rw [← bb]
  exact Rn_bind h h2
theorem atI_last {α : Type} (xs : List α) (x : α) : L2.atI (xs ++ [x]) (-1) = some x := by
  unfold L2.atI L2.ixN
  have e : (-1 + ((xs.length : Int) + 1)).toNat = xs.length := by omega
  simp
  rw [if_pos (by omega), e]
  simp
theorem atI_last2 {α : Type} (xs : List α) (y x : α) : L2.atI (xs ++ [y] ++ [x]) (-2) = some y := by
  unfold L2.atI L2.ixN
  have e : (-2 + ((xs.length : Int) + 2)).toNat = xs.length := by omega
  simp
  rw [if_pos (by omega), e]
  simp
/-- a comprehension, whose turns leave the memory as it is, ints in -/
theorem At_lcI {f : D → M (Option D)} {is : List Int} {g : Int → Option D} (h : ∀ i ∈ is, At μ (f (.int i)) (g i)) : At μ (lcGo (is.map D.int) f) (is.filterMap g) := by
  have := At_lc (μ := μ) (f := f) (g := fun d => match d with
    | .int i => g i
    | _ => none) (is.map D.int) (fun d hd => by
    obtain ⟨i, hi, rfl⟩ := List.mem_map.mp hd
    exact h i hi)
  rw [List.filterMap_map] at this
  exact this
end
end DL
/-! DL20: the least of some pairs of ints -/
namespace DL
open PySem
def pD (p : Int × Int) : D := .tup [.int p.1, .int p.2]
def pY (p : Int × Int) : PyData := .tuple [.int p.1, .int p.2]
def ltP (x y : Int × Int) : Bool := decide (x.1 < y.1) || (!decide (y.1 < x.1) && decide (x.2 < y.2))
theorem itemLt_inl (a b : Int) : PyProof.Rows.itemLt (.inl a) (.inl b) = decide (a < b) := rfl
theorem lt_pair (x y : Int × Int) : PySem.W.dataLt (pY x) (pY y) = ltP x y := by
  unfold pY
  rw [PySem.W.dataLt_tuple]
  simp only [PySem.W.keyToksAll, PySem.W.keyToks, List.cons_append, List.nil_append]
  rw [PyProof.Rows.lex_cons, PyProof.Rows.lex_cons, PyProof.Rows.lex_cons, PyProof.Rows.lex_cons, PyProof.Rows.lex_cons]
  simp [ltP, PyProof.Rows.lexLt, itemLt_inl]
theorem bestD_pairs : ∀ (ps : List (Int × Int)) (x : Int × Int), bestD (fun y a => PySem.W.dataLt y a) (pD x) (pY x) (ps.map pD) (ps.map pY) = pD (ps.foldl (fun a y => if ltP y a = true then y else a) x)
  | [], x => rfl
  | p :: ps, x => by
    rw [List.map_cons, List.map_cons, List.foldl_cons]
    show (if PySem.W.dataLt (pY p) (pY x) = true then _ else _) = _
    rw [lt_pair]
    cases ltP p x with
    | true => exact bestD_pairs ps p
    | false => exact bestD_pairs ps x
theorem ltP_iff {x y : Int × Int} : ltP x y = true ↔ x.1 < y.1 ∨ (x.1 = y.1 ∧ x.2 < y.2) := by
  unfold ltP
  simp only [Bool.or_eq_true, Bool.and_eq_true, decide_eq_true_eq, Bool.not_eq_true', decide_eq_false_iff_not]
  omega
theorem ltP_no {x y : Int × Int} : ltP x y = false ↔ ¬ (x.1 < y.1 ∨ (x.1 = y.1 ∧ x.2 < y.2)) := by
  rw [← ltP_iff]
  simp
theorem fold_least : ∀ (ps : List (Int × Int)) (x : Int × Int), ps.foldl (fun a y => if ltP y a = true then y else a) x ∈ x :: ps ∧ ∀ y ∈ x :: ps, ltP y (ps.foldl (fun a y => if ltP y a = true then y else a) x) = false
  | [], x => ⟨List.mem_cons_self, fun y hy => by
    rw [List.mem_singleton.mp hy]
    exact ltP_no.mpr (by show ¬ (x.1 < x.1 ∨ (x.1 = x.1 ∧ x.2 < x.2)); omega)⟩
  | p :: ps, x => by
    rw [List.foldl_cons]
    cases c : ltP p x with
    | true =>
      rw [if_pos rfl]
      obtain ⟨h1, h2⟩ := fold_least ps p
      refine ⟨List.mem_cons_of_mem _ h1, fun y hy => ?_⟩
      rcases List.mem_cons.mp hy with rfl | hy
      · have h3 := ltP_no.mp (h2 p List.mem_cons_self)
        have h4 := ltP_iff.mp c
        exact ltP_no.mpr (by omega)
      · exact h2 y hy
    | false =>
      rw [if_neg Bool.false_ne_true]
      obtain ⟨h1, h2⟩ := fold_least ps x
      refine ⟨?_, fun y hy => ?_⟩
      · rcases List.mem_cons.mp h1 with h | h
        · rw [h]; exact List.mem_cons_self
        · exact List.mem_cons_of_mem _ (List.mem_cons_of_mem _ h)
      · rcases List.mem_cons.mp hy with rfl | hy
        · exact h2 y List.mem_cons_self
        · rcases List.mem_cons.mp hy with rfl | hy
          · have h3 := ltP_no.mp (h2 x List.mem_cons_self)
            have h4 := ltP_no.mp c
            exact ltP_no.mpr (by omega)
          · exact h2 y (List.mem_cons_of_mem _ hy)
theorem pys_pairs : ∀ ps : List (Int × Int), D.pys (ps.map pD) = some (ps.map pY)
  | [] => rfl
  | p :: ps => by
    rw [List.map_cons, List.map_cons]
    simp [D.pys, D.py, pD, pY, pys_pairs ps]
theorem depth_pairs : ∀ ps : List (Int × Int), PyData.depthAll (ps.map pY) ≤ 1
  | [] => by simp [PyData.depthAll]
  | p :: ps => by
    have := depth_pairs ps
    simp [PyData.depthAll, PyData.depth, pY]
    omega
theorem alike_pairs (ps : List (Int × Int)) : alikeL (ps.map pY) = true := by
  unfold alikeL
  simp only [Bool.and_eq_true, List.all_eq_true]
  refine ⟨fun x hx y hy => ?_, fun x hx => ?_⟩
  · obtain ⟨p, _, rfl⟩ := List.mem_map.mp hx
    obtain ⟨q, _, rfl⟩ := List.mem_map.mp hy
    simp [pY, PySem.W.alike, PySem.W.alikeAll]
  · obtain ⟨p, _, rfl⟩ := List.mem_map.mp hx
    rfl
theorem best_pairs {ps : List (Int × Int)} {m : Int × Int} (hm : m ∈ ps) (hl : ∀ y ∈ ps, y = m ∨ ltP m y = true) : bestOf (fun y a => PySem.W.dataLt y a) (ps.map pD) = some (pD m) := by
  cases ps with
  | nil => cases hm
  | cons p ps =>
    have e1 := pys_pairs (p :: ps)
    have e2 := alike_pairs (p :: ps)
    have e3 := depth_pairs (p :: ps)
    have e4 := bestD_pairs ps p
    obtain ⟨h1, h2⟩ := fold_least ps p
    generalize ps.foldl (fun a y => if ltP y a = true then y else a) p = z at *
    have hz : z = m := by
      rcases hl z h1 with h | h
      · exact h
      · have := h2 m hm
        rw [h] at this
        cases this
    rw [List.map_cons] at e1 e2 e3 ⊢
    unfold bestOf
    rw [e1]
    show (if (alikeL (pY p :: List.map pY ps) && decide (PyData.depthAll (pY p :: List.map pY ps) ≤ 50)) = true then some (bestD (fun y a => PySem.W.dataLt y a) (pD p) (pY p) (ps.map pD) (ps.map pY)) else none) = _
    rw [e2, decide_eq_true (by omega), Bool.and_true, if_pos rfl, e4, hz]
end DL
namespace Row
open PySem PySem.Spec PyProof.Rows L2 DL
def top (i : Nat) : Stmt := PySem.Challenge.pw_gamesweighed_k58_whole_hats_in_a_line.main.body.getD i (.Pass ⟨0, 0, 0, 0⟩)
def b0 : Sz := (.cons (.set 1 (.call 1 (.cons (.var 0) .nil))) (.cons (.for (.nm 2) (.range1 (.int 5)) (.cons (.tset (.cons (.nm 3) (.cons (.nm 4) (.cons (.nm 5) .nil))) (.tup (.cons (.bin .add (.int 1) (.call 23 (.cons (.var 1) (.cons (.int 30) .nil)))) (.cons (.call 27 (.cons (.var 1) (.cons (.lst (.cons (.int 0) (.cons (.int 1) (.cons (.int 2) (.cons (.int 3) (.cons (.call 23 (.cons (.var 1) (.cons (.int 31) .nil))) .nil)))))) .nil))) (.cons (.bin .add (.int 2) (.call 23 (.cons (.var 1) (.cons (.int 9) .nil)))) .nil))))) (.cons (.set 6 (.mkl (.lst .nil))) (.cons (.for (.nm 7) (.range1 (.var 3)) (.cons (.ite (.bool .And (.cons (.cmp .eq (.call 23 (.cons (.var 1) (.cons (.int 2) .nil))) (.int 0)) (.cons (.cmp .isN (.call 2 (.cons (.var 4) (.cons (.bin .add (.var 6) (.lst (.cons (.var 7) .nil))) .nil))) .non) .nil))) (.cons (.app (.var 6) (.var 7)) .nil) .nil) .nil)) (.cons (.set 8 (.bf .tuple (.cons (.lc (.nm 7) (.range1 (.var 3)) (.cmp .eq (.call 23 (.cons (.var 1) (.cons (.int 2) .nil))) (.int 0)) (.var 7)) .nil))) (.cons (.set 9 (.call 2 (.cons (.var 4) (.cons (.var 8) .nil)))) (.cons (.ite (.not (.call 11 (.cons (.lst (.cons (.call 3 (.cons (.var 3) (.cons (.var 4) (.cons (.var 8) .nil)))) (.cons (.call 10 (.cons (.var 3) (.cons (.var 4) (.cons (.var 8) .nil)))) .nil))) (.cons (.lst (.cons (.cmp .isN (.var 9) .non) (.cons (.var 9) .nil))) .nil)))) (.cons (.ret (.bl false)) .nil) .nil) (.cons (.ite (.not (.call 24 (.cons (.var 1) (.cons (.var 5) (.cons (.var 4) (.cons (.bf .tuple (.cons (.var 6) .nil)) (.cons (.bf .tuple (.cons (.lc (.nm 7) (.range1 (.var 3)) .nil (.call 23 (.cons (.var 1) (.cons (.var 5) .nil)))) .nil)) .nil))))))) (.cons (.ret (.bl false)) .nil) .nil) .nil)))))))) (.cons (.set 10 (.lst (.cons (.call 3 (.cons (.int 5) (.cons (.int 1) (.cons (.tup (.cons (.int 1) (.cons (.int 3) .nil))) .nil)))) (.cons (.call 3 (.cons (.int 5) (.cons (.int 1) (.cons (.tup (.cons (.int 1) (.cons (.int 2) .nil))) .nil)))) (.cons (.call 10 (.cons (.int 5) (.cons (.int 1) (.cons (.tup (.cons (.int 1) (.cons (.int 2) .nil))) .nil)))) (.cons (.call 3 (.cons (.int 5) (.cons (.int 2) (.cons (.tup (.cons (.int 1) (.cons (.int 2) .nil))) .nil)))) .nil)))))) (.cons (.set 10 (.bin .add (.var 10) (.lst (.cons (.call 22 (.cons (.int 5) (.cons (.int 1) .nil))) (.cons (.call 22 (.cons (.int 4) (.cons (.int 2) .nil))) (.cons (.call 22 (.cons (.int 5) (.cons (.int 4) .nil))) (.cons (.call 22 (.cons (.int 3) (.cons (.int 0) .nil))) (.cons (.call 21 (.cons (.int 5) (.cons (.int 2) .nil))) .nil)))))))) (.cons (.ite (.not (.call 11 (.cons (.var 10) (.cons (.lst (.cons (.bl true) (.cons (.bl false) (.cons (.int 2) (.cons (.bl true) (.cons (.int 2) (.cons (.int 2) (.cons (.int 4) (.cons (.int 0) (.cons (.tup (.cons (.int 1) (.cons (.int 2) (.cons (.int 4) .nil)))) .nil)))))))))) .nil)))) (.cons (.ret (.bl false)) .nil) .nil) (.cons (.set 10 (.lst (.cons (.call 13 (.cons (.int 3) (.cons (.int 2) (.cons (.tup (.cons (.int 1) (.cons (.int 2) .nil))) (.cons (.tup (.cons (.int 2) (.cons (.int 1) (.cons (.int 2) (.cons (.int 0) .nil))))) .nil))))) (.cons (.call 19 (.cons (.int 3) (.cons (.int 2) (.cons (.tup (.cons (.int 1) (.cons (.int 2) .nil))) (.cons (.tup (.cons (.int 0) .nil)) (.cons (.tup (.cons (.int 2) (.cons (.int 0) .nil))) .nil)))))) (.cons (.call 19 (.cons (.int 3) (.cons (.int 2) (.cons (.tup (.cons (.int 1) (.cons (.int 2) .nil))) (.cons (.tup .nil) (.cons (.tup (.cons (.int 1) (.cons (.int 2) .nil))) .nil)))))) .nil))))) (.cons (.set 10 (.bin .add (.var 10) (.lst (.cons (.call 19 (.cons (.int 3) (.cons (.int 2) (.cons (.tup (.cons (.int 1) (.cons (.int 2) .nil))) (.cons (.tup (.cons (.int 0) (.cons (.int 1) .nil))) (.cons (.tup (.cons (.int 0) .nil)) .nil)))))) (.cons (.call 19 (.cons (.int 2) (.cons (.int 0) (.cons (.tup .nil) (.cons (.tup .nil) (.cons (.tup .nil) .nil)))))) (.cons (.call 13 (.cons (.int 10) (.cons (.int 1) (.cons (.tup (.cons (.int 1) .nil)) (.cons (.tup (.cons (.int 0) (.cons (.int 9) .nil))) .nil))))) .nil)))))) (.cons (.ite (.not (.call 11 (.cons (.var 10) (.cons (.lst (.cons (.tup (.cons (.int 0) (.cons (.int 1) (.cons (.int 2) (.cons (.int 0) .nil))))) (.cons (.int 1) (.cons (.int 0) (.cons (.int 2) (.cons (.int 0) (.cons (.tup (.cons (.int 9) (.cons (.int 9) .nil))) .nil))))))) .nil)))) (.cons (.ret (.bl false)) .nil) .nil) (.cons (.for (.tp (.cons (.nm 3) (.cons (.nm 4) .nil))) (.tup (.cons (.tup (.cons (.int 1) (.cons (.int 0) .nil))) (.cons (.tup (.cons (.int 1) (.cons (.int 5) .nil))) (.cons (.tup (.cons (.int 2) (.cons (.int 1) .nil))) (.cons (.tup (.cons (.int 4) (.cons (.int 1) .nil))) (.cons (.tup (.cons (.int 5) (.cons (.int 2) .nil))) (.cons (.tup (.cons (.int 6) (.cons (.int 1) .nil))) (.cons (.tup (.cons (.int 6) (.cons (.int 2) .nil))) (.cons (.tup (.cons (.int 6) (.cons (.int 30) .nil))) (.cons (.tup (.cons (.int 3) (.cons (.int 0) .nil))) .nil)))))))))) (.cons (.ite (.not (.call 28 (.cons (.var 3) (.cons (.var 4) .nil)))) (.cons (.ret (.bl false)) .nil) .nil) .nil)) (.cons (.ite (.bool .Or (.cons (.not (.call 30 (.cons (.int 5) (.cons (.int 2) (.cons (.tup (.cons (.int 1) (.cons (.int 2) (.cons (.int 4) .nil)))) (.cons (.int 2) .nil)))))) (.cons (.not (.call 30 (.cons (.int 4) (.cons (.int 1) (.cons (.tup (.cons (.int 1) (.cons (.int 3) .nil))) (.cons (.int 3) .nil)))))) (.cons (.not (.call 30 (.cons (.int 4) (.cons (.int 3) (.cons (.tup (.cons (.int 1) (.cons (.int 2) (.cons (.int 3) .nil)))) (.cons (.int 3) .nil)))))) .nil)))) (.cons (.ret (.bl false)) .nil) .nil) (.cons (.ret (.bool .And (.cons (.call 20 (.cons (.var 1) .nil)) (.cons (.call 26 (.cons (.var 1) .nil)) .nil)))) .nil)))))))))))
def b1 : Sz := (.cons (.set 1 (.bf .abs (.cons (.idx (.bin .add (.bf .list (.cons (.var 0) .nil)) (.lst (.cons (.int 0) .nil))) (.int 0)) .nil))) (.cons (.ret (.mkl (.lst (.cons (.ife (.cmp .ge (.var 1) (.bin .pow (.int 10) (.int 18))) (.bin .fdiv (.var 1) (.int 113)) (.int 0)) (.cons (.bin .add (.bin .mod (.bf .int (.cons (.bin .add (.bin .mul (.var 1) (.int 367)) (.int 5303)) .nil)) (.int 1984129399)) (.int 227)) .nil))))) .nil))
def b2 : Sz := (.cons (.for (.nm 2) (.var 1) (.cons (.set 3 (.lc (.nm 4) (.range2 (.bin .sub (.var 2) (.var 0)) (.var 2)) (.cmp .ge (.var 4) (.int 0)) (.var 4))) (.cons (.ite (.cmp .eq (.lc (.nm 4) (.var 3) (.cmp .nmem (.var 4) (.var 1)) (.var 4)) (.lst .nil)) (.cons (.ret (.var 2)) .nil) .nil) .nil))) (.cons (.ret .non) .nil))
def b3 : Sz := (.cons (.expr (.call 4 (.cons (.var 0) (.cons (.var 1) (.cons (.var 2) .nil))))) (.cons (.ret (.cmp .isN (.call 9 (.cons (.var 1) (.cons (.var 2) .nil))) .non)) .nil))
def b4 : Sz := (.cons (.expr (.call 5 (.cons (.var 0) (.cons (.int 1) (.cons (.gcon 0) .nil))))) (.cons (.expr (.call 5 (.cons (.var 1) (.cons (.int 0) (.cons (.gcon 0) .nil))))) (.cons (.ite (.not (.call 7 (.cons (.var 2) (.cons (.var 0) .nil)))) (.cons (.raise 1) .nil) .nil) .nil)))
def b5 : Sz := (.cons (.ite (.not (.call 6 (.cons (.var 0) (.cons (.var 1) (.cons (.var 2) .nil))))) (.cons (.raise 0) .nil) .nil) .nil)
def b6 : Sz := (.cons (.ret (.bool .And (.cons (.bf .isin (.cons (.var 0) (.cons (.gty "int") .nil))) (.cons (.not (.bf .isin (.cons (.var 0) (.cons (.gty "bool") .nil)))) (.cons (.chain .le .le (.var 1) (.var 0) (.var 2)) .nil))))) .nil)
def b7 : Sz := (.cons (.ite (.bool .Or (.cons (.not (.bf .isin (.cons (.var 0) (.cons (.gty "tuple") .nil)))) (.cons (.not (.bf .all (.cons (.lc (.nm 2) (.var 0) .nil (.call 6 (.cons (.var 2) (.cons (.int 0) (.cons (.bin .sub (.var 1) (.int 1)) .nil))))) .nil))) .nil))) (.cons (.ret (.bl false)) .nil) .nil) (.cons (.ret (.call 8 (.cons (.var 0) .nil))) .nil))
def b8 : Sz := (.cons (.ret (.bf .all (.cons (.lc (.tp (.cons (.nm 1) (.cons (.nm 2) .nil))) (.zip (.var 0) (.slc (.var 0) (.int 1) .nil)) .nil (.cmp .lt (.var 1) (.var 2))) .nil))) .nil)
def b9 : Sz := (.cons (.for (.nm 2) (.var 1) (.cons (.ite (.not (.lc (.nm 3) (.range2 (.bf .max2 (.cons (.int 0) (.cons (.bin .sub (.var 2) (.var 0)) .nil))) (.var 2)) (.cmp .nmem (.var 3) (.var 1)) (.var 3))) (.cons (.ret (.var 2)) .nil) .nil) .nil)) (.cons (.ret .non) .nil))
def b10 : Sz := (.cons (.expr (.call 4 (.cons (.var 0) (.cons (.var 1) (.cons (.var 2) .nil))))) (.cons (.ret (.call 9 (.cons (.var 1) (.cons (.var 2) .nil)))) .nil))
def b11 : Sz := (.cons (.set 2 (.call 12 (.cons (.var 1) .nil))) (.cons (.ite (.bool .Or (.cons (.cmp .ne (.call 12 (.cons (.var 0) .nil)) (.var 2)) (.cons (.cmp .eq (.var 2) (.int 6)) .nil))) (.cons (.ret (.bl false)) .nil) .nil) (.cons (.ite (.cmp .mem (.var 2) (.tup (.cons (.int 4) (.cons (.int 5) .nil)))) (.cons (.ret (.bool .And (.cons (.cmp .eq (.bf .len (.cons (.var 0) .nil)) (.bf .len (.cons (.var 1) .nil))) (.cons (.cmp .eq (.lc (.tp (.cons (.nm 3) (.cons (.nm 4) .nil))) (.zip (.var 0) (.var 1)) (.not (.call 11 (.cons (.var 3) (.cons (.var 4) .nil)))) (.int 1)) (.lst .nil)) .nil)))) .nil) .nil) (.cons (.ret (.cmp .eq (.var 0) (.var 1))) .nil))))
def b12 : Sz := (.cons (.ite (.bool .Or (.cons (.cmp .isN (.var 0) .non) (.cons (.bf .isin (.cons (.var 0) (.cons (.gty "bool") .nil))) .nil))) (.cons (.ret (.ife (.cmp .isN (.var 0) .non) (.int 0) (.int 1))) .nil) .nil) (.cons (.ite (.bool .Or (.cons (.bf .isin (.cons (.var 0) (.cons (.gty "int") .nil))) (.cons (.bf .isin (.cons (.var 0) (.cons (.gty "str") .nil))) .nil))) (.cons (.ret (.ife (.bf .isin (.cons (.var 0) (.cons (.gty "int") .nil))) (.int 2) (.int 3))) .nil) .nil) (.cons (.ret (.ife (.bf .isin (.cons (.var 0) (.cons (.gty "tuple") .nil))) (.int 4) (.ife (.bf .isin (.cons (.var 0) (.cons (.gty "list") .nil))) (.int 5) (.int 6)))) .nil)))
def b13 : Sz := (.cons (.expr (.call 14 (.cons (.var 0) (.cons (.var 1) (.cons (.var 2) .nil))))) (.cons (.ite (.bool .Or (.cons (.not (.call 15 (.cons (.var 3) (.cons (.int 1) (.cons (.gcon 0) .nil))))) (.cons (.not (.call 16 (.cons (.var 0) (.cons (.var 3) .nil)))) .nil))) (.cons (.raise 2) .nil) .nil) (.cons (.ite (.not (.bf .all (.cons (.lc (.nm 4) (.var 2) .nil (.cmp .lt (.var 4) (.bf .len (.cons (.var 3) .nil)))) .nil))) (.cons (.raise 1) .nil) .nil) (.cons (.set 5 (.tup .nil)) (.cons (.for (.nm 6) (.range1 (.bf .len (.cons (.var 3) .nil))) (.cons (.set 5 (.bin .add (.var 5) (.tup (.cons (.call 17 (.cons (.var 0) (.cons (.var 2) (.cons (.var 5) (.cons (.slc (.var 3) (.bin .add (.var 6) (.int 1)) (.bin .add (.bin .add (.var 6) (.int 1)) (.var 1))) .nil))))) .nil)))) .nil)) (.cons (.ret (.var 5)) .nil))))))
def b14 : Sz := (.cons (.expr (.call 5 (.cons (.var 0) (.cons (.int 2) (.cons (.gcon 1) .nil))))) (.cons (.expr (.call 5 (.cons (.var 1) (.cons (.int 0) (.cons (.gcon 0) .nil))))) (.cons (.ite (.bool .Or (.cons (.not (.call 7 (.cons (.var 2) (.cons (.gcon 0) .nil)))) (.cons (.cmp .notN (.call 9 (.cons (.var 1) (.cons (.var 2) .nil))) .non) .nil))) (.cons (.raise 1) .nil) .nil) .nil)))
def b15 : Sz := (.cons (.ret (.bool .And (.cons (.bf .isin (.cons (.var 0) (.cons (.gty "tuple") .nil))) (.cons (.chain .le .le (.var 1) (.bf .len (.cons (.var 0) .nil)) (.var 2)) .nil)))) .nil)
def b16 : Sz := (.cons (.ret (.bool .And (.cons (.bf .isin (.cons (.var 1) (.cons (.gty "tuple") .nil))) (.cons (.bf .all (.cons (.lc (.nm 2) (.var 1) .nil (.call 6 (.cons (.var 2) (.cons (.int 0) (.cons (.bin .sub (.var 0) (.int 1)) .nil))))) .nil)) .nil)))) .nil)
def b17 : Sz := (.cons (.set 4 (.bf .len (.cons (.var 2) .nil))) (.cons (.set 5 (.call 18 (.cons (.var 1) (.cons (.bin .add (.var 4) (.int 1)) (.cons (.var 3) .nil))))) (.cons (.ite (.cmp .nmem (.var 4) (.var 1)) (.cons (.ret (.bin .mod (.var 5) (.var 0))) .nil) .nil) (.cons (.set 6 (.idx (.lc (.nm 7) (.range1 (.var 4)) (.cmp .nmem (.var 7) (.var 1)) (.var 7)) (.neg (.int 1)))) (.cons (.ret (.bin .mod (.bin .sub (.bin .sub (.idx (.var 2) (.var 6)) (.bf .sum (.cons (.slc (.var 2) (.bin .add (.var 6) (.int 1)) .nil) .nil))) (.var 5)) (.var 0))) .nil)))))
def b18 : Sz := (.cons (.set 3 (.int 0)) (.cons (.for (.tp (.cons (.nm 4) (.cons (.nm 5) .nil))) (.enum (.var 2)) (.cons (.ite (.cmp .nmem (.bin .add (.var 1) (.var 4)) (.var 0)) (.cons (.ret (.var 3)) .nil) .nil) (.cons (.set 3 (.bin .add (.var 3) (.var 5))) .nil))) (.cons (.ret (.var 3)) .nil)))
def b19 : Sz := (.cons (.expr (.call 14 (.cons (.var 0) (.cons (.var 1) (.cons (.var 2) .nil))))) (.cons (.ite (.bool .Or (.cons (.not (.call 16 (.cons (.var 0) (.cons (.var 3) .nil)))) (.cons (.not (.call 16 (.cons (.var 0) (.cons (.var 4) .nil)))) .nil))) (.cons (.raise 2) .nil) .nil) (.cons (.set 5 (.bin .add (.bin .add (.bf .len (.cons (.var 3) .nil)) (.int 1)) (.bf .len (.cons (.var 4) .nil)))) (.cons (.ite (.bool .Or (.cons (.cmp .ge (.bf .len (.cons (.var 3) .nil)) (.gcon 0)) (.cons (.cmp .gt (.bf .len (.cons (.var 4) .nil)) (.var 1)) (.cons (.cmp .gt (.var 5) (.gcon 0)) .nil)))) (.cons (.raise 2) .nil) .nil) (.cons (.ite (.bool .And (.cons (.cmp .lt (.bf .len (.cons (.var 4) .nil)) (.var 1)) (.cons (.not (.bf .all (.cons (.lc (.nm 6) (.var 2) .nil (.cmp .lt (.var 6) (.var 5))) .nil))) .nil))) (.cons (.raise 1) .nil) .nil) (.cons (.ret (.call 17 (.cons (.var 0) (.cons (.var 2) (.cons (.var 3) (.cons (.var 4) .nil)))))) .nil))))))
def b20 : Sz := (.cons (.set 1 (.lst (.cons (.call 22 (.cons (.int 30) (.cons (.int 29) .nil))) (.cons (.call 21 (.cons (.int 30) (.cons (.int 29) .nil))) (.cons (.call 22 (.cons (.int 30) (.cons (.int 1) .nil))) (.cons (.call 22 (.cons (.int 30) (.cons (.int 0) .nil))) (.cons (.call 22 (.cons (.int 30) (.cons (.int 30) .nil))) (.cons (.call 22 (.cons (.int 29) (.cons (.int 4) .nil))) .nil)))))))) (.cons (.ite (.not (.call 11 (.cons (.var 1) (.cons (.lst (.cons (.int 29) (.cons (.trng (.int 1) (.int 30)) (.cons (.int 15) (.cons (.int 0) (.cons (.int 29) (.cons (.int 23) .nil))))))) .nil)))) (.cons (.ret (.bl false)) .nil) .nil) (.cons (.tset (.cons (.nm 2) (.cons (.nm 3) .nil)) (.tup (.cons (.bin .add (.int 2) (.call 23 (.cons (.var 0) (.cons (.int 9) .nil)))) (.cons (.call 23 (.cons (.var 0) (.cons (.int 31) .nil))) .nil)))) (.cons (.set 4 (.call 21 (.cons (.int 30) (.cons (.var 3) .nil)))) (.cons (.set 5 (.bf .tuple (.cons (.lc (.nm 6) (.range1 (.int 30)) .nil (.call 23 (.cons (.var 0) (.cons (.var 2) .nil)))) .nil))) (.cons (.ite (.bool .Or (.cons (.not (.call 24 (.cons (.var 0) (.cons (.var 2) (.cons (.var 3) (.cons (.var 4) (.cons (.var 5) .nil))))))) (.cons (.not (.call 24 (.cons (.var 0) (.cons (.var 2) (.cons (.int 29) (.cons (.trng (.int 1) (.int 30)) (.cons (.var 5) .nil))))))) .nil))) (.cons (.ret (.bl false)) .nil) .nil) (.cons (.ret (.bool .And (.cons (.cmp .eq (.call 10 (.cons (.int 30) (.cons (.int 28) (.cons (.trng (.int 1) (.int 30)) .nil)))) (.int 29)) (.cons (.cmp .isB (.call 3 (.cons (.int 30) (.cons (.int 29) (.cons (.trng (.int 1) (.int 30)) .nil)))) (.bl true)) .nil)))) .nil)))))))
def b21 : Sz := (.cons (.expr (.call 5 (.cons (.var 0) (.cons (.int 1) (.cons (.gcon 0) .nil))))) (.cons (.expr (.call 5 (.cons (.var 1) (.cons (.int 0) (.cons (.gcon 0) .nil))))) (.cons (.ret (.bf .tuple (.cons (.lc (.nm 2) (.range1 (.var 0)) (.cmp .ne (.bin .mod (.var 2) (.bin .add (.var 1) (.int 1))) (.int 0)) (.var 2)) .nil))) .nil)))
def b22 : Sz := (.cons (.expr (.call 5 (.cons (.var 0) (.cons (.int 1) (.cons (.gcon 0) .nil))))) (.cons (.expr (.call 5 (.cons (.var 1) (.cons (.int 0) (.cons (.gcon 0) .nil))))) (.cons (.ret (.bin .sub (.var 0) (.bin .fdiv (.bin .add (.var 0) (.var 1)) (.bin .add (.var 1) (.int 1))))) .nil)))
def b23 : Sz := (.cons (.ite (.cmp .gt (.idx (.var 0) (.int 0)) (.int 0)) (.cons (.set 2 (.bin .mod (.bf .int (.cons (.idx (.var 0) (.int 0)) .nil)) (.var 1))) (.cons (.setix (.var 0) (.int 0) (.bin .fdiv (.idx (.var 0) (.int 0)) (.var 1))) (.cons (.ret (.var 2)) .nil))) .nil) (.cons (.setix (.var 0) (.int 1) (.bin .mod (.bf .int (.cons (.bin .add (.bin .mul (.idx (.var 0) (.int 1)) (.int 30011)) (.int 9001)) .nil)) (.int 2147483543))) (.cons (.set 3 (.bin .mod (.bf .int (.cons (.bin .mul (.idx (.var 0) (.int 1)) (.bin .add (.idx (.var 0) (.int 1)) (.int 293))) .nil)) (.int 2147483587))) (.cons (.ret (.bin .mod (.bf .int (.cons (.bin .fdiv (.var 3) (.int 883)) .nil)) (.var 1))) .nil))))
def b24 : Sz := (.cons (.set 5 (.call 13 (.cons (.var 1) (.cons (.var 2) (.cons (.var 3) (.cons (.var 4) .nil)))))) (.cons (.ite (.bool .Or (.cons (.cmp .ne (.call 12 (.cons (.var 5) .nil)) (.int 4)) (.cons (.cmp .ne (.bf .len (.cons (.var 5) .nil)) (.bf .len (.cons (.var 4) .nil))) .nil))) (.cons (.ret (.bl false)) .nil) .nil) (.cons (.for (.tp (.cons (.nm 6) (.cons (.nm 7) .nil))) (.enum (.var 4)) (.cons (.set 8 (.call 25 (.cons (.var 1) (.cons (.var 2) (.cons (.var 3) (.cons (.slc (.var 5) .nil (.var 6)) (.cons (.slc (.var 4) (.bin .add (.var 6) (.int 1)) (.bin .add (.bin .add (.var 6) (.int 1)) (.var 2))) .nil))))))) (.cons (.set 9 (.call 19 (.cons (.var 1) (.cons (.var 2) (.cons (.var 3) (.cons (.slc (.var 5) .nil (.var 6)) (.cons (.slc (.var 4) (.bin .add (.var 6) (.int 1)) (.bin .add (.bin .add (.var 6) (.int 1)) (.var 2))) .nil))))))) (.cons (.ite (.bool .Or (.cons (.not (.call 11 (.cons (.lst (.cons (.idx (.var 5) (.var 6)) (.cons (.var 9) .nil))) (.cons (.lst (.cons (.var 8) (.cons (.var 8) .nil))) .nil)))) (.cons (.bool .And (.cons (.cmp .mem (.var 6) (.var 3)) (.cons (.cmp .ne (.idx (.var 5) (.var 6)) (.var 7)) .nil))) .nil))) (.cons (.ret (.bl false)) .nil) .nil) .nil)))) (.cons (.set 6 (.call 23 (.cons (.var 0) (.cons (.bf .len (.cons (.var 4) .nil)) .nil)))) (.cons (.set 10 (.bf .tuple (.cons (.lc (.nm 11) (.range1 (.var 6)) .nil (.call 23 (.cons (.var 0) (.cons (.var 1) .nil)))) .nil))) (.cons (.set 12 (.slc (.var 4) (.bin .add (.var 6) (.int 1)) (.bin .add (.bin .add (.var 6) (.int 1)) (.var 2)))) (.cons (.ret (.call 11 (.cons (.call 19 (.cons (.var 1) (.cons (.var 2) (.cons (.var 3) (.cons (.var 10) (.cons (.var 12) .nil)))))) (.cons (.call 25 (.cons (.var 1) (.cons (.var 2) (.cons (.var 3) (.cons (.var 10) (.cons (.var 12) .nil)))))) .nil)))) .nil)))))))
def b25 : Sz := (.cons (.par [5, 6] (.tup (.cons (.bf .len (.cons (.var 3) .nil)) (.cons (.mkl (.lst .nil)) .nil)))) (.cons (.for (.tp (.cons (.nm 7) (.cons (.nm 8) .nil))) (.enum (.slc (.var 4) .nil (.var 1))) (.cons (.ite (.cmp .eq (.lc (.nm 9) (.range2 (.bin .add (.var 5) (.int 1)) (.bin .add (.bin .add (.var 5) (.int 2)) (.var 7))) (.cmp .nmem (.var 9) (.var 2)) (.var 9)) (.lst .nil)) (.cons (.app (.var 6) (.var 8)) .nil) .nil) .nil)) (.cons (.ite (.cmp .nmem (.var 5) (.var 2)) (.cons (.ret (.bin .mod (.bf .int (.cons (.bf .sum (.cons (.frz 6) .nil)) .nil)) (.var 0))) .nil) .nil) (.cons (.set 10 (.bf .max1 (.cons (.lc (.nm 9) (.range1 (.var 5)) (.cmp .nmem (.var 9) (.var 2)) (.var 9)) .nil))) (.cons (.ret (.bin .mod (.bf .int (.cons (.bin .sub (.bin .sub (.idx (.var 3) (.var 10)) (.bf .sum (.cons (.slc (.var 3) (.bin .add (.var 10) (.int 1)) (.var 5)) .nil))) (.bf .sum (.cons (.frz 6) .nil))) .nil)) (.var 0))) .nil)))))
def b26 : Sz := (.cons (.set 1 (.mkl (.lst .nil))) (.cons (.for (.tp (.cons (.nm 2) (.cons (.nm 3) .nil))) (.tup (.cons (.tup (.cons .non (.cons (.int 1) .nil))) (.cons (.tup (.cons (.int 0) (.cons (.int 1) .nil))) (.cons (.tup (.cons (.int 31) (.cons (.int 1) .nil))) (.cons (.tup (.cons (.bl true) (.cons (.int 1) .nil))) (.cons (.tup (.cons (.int 5) (.cons .non .nil))) (.cons (.tup (.cons (.int 5) (.cons (.neg (.int 1)) .nil))) (.cons (.tup (.cons (.int 5) (.cons (.int 31) .nil))) (.cons (.tup (.cons (.int 5) (.cons (.bl true) .nil))) .nil))))))))) (.cons (.set 1 (.mkl (.bin .add (.var 1) (.lc (.nm 4) (.tup (.cons (.gfn 22) (.cons (.gfn 21) .nil))) .nil (.err 100000 (.callv 4 (.cons (.var 2) (.cons (.var 3) .nil)))))))) (.cons (.set 1 (.mkl (.bin .add (.var 1) (.lc (.nm 4) (.tup (.cons (.gfn 3) (.cons (.gfn 10) .nil))) .nil (.err 100000 (.callv 4 (.cons (.var 2) (.cons (.var 3) (.cons .non .nil))))))))) .nil))) (.cons (.for (.tp (.cons (.nm 5) (.cons (.nm 3) .nil))) (.tup (.cons (.tup (.cons .non (.cons (.int 1) .nil))) (.cons (.tup (.cons (.int 1) (.cons (.int 1) .nil))) (.cons (.tup (.cons (.int 11) (.cons (.int 1) .nil))) (.cons (.tup (.cons (.bl true) (.cons (.int 1) .nil))) (.cons (.tup (.cons (.int 2) (.cons .non .nil))) (.cons (.tup (.cons (.int 2) (.cons (.neg (.int 1)) .nil))) (.cons (.tup (.cons (.int 2) (.cons (.int 31) .nil))) .nil)))))))) (.cons (.app (.var 1) (.err 100000 (.call 19 (.cons (.var 5) (.cons (.var 3) (.cons .non (.cons .non (.cons .non .nil)))))))) (.cons (.app (.var 1) (.err 100000 (.call 13 (.cons (.var 5) (.cons (.var 3) (.cons .non (.cons .non .nil))))))) .nil))) (.cons (.ite (.cmp .ne (.var 1) (.bin .mul (.lst (.cons (.str "number") .nil)) (.int 46))) (.cons (.ret (.bl false)) .nil) .nil) (.cons (.set 1 (.mkl (.lst .nil))) (.cons (.for (.nm 6) (.tup (.cons .non (.cons (.tup (.cons (.int 5) .nil)) (.cons (.tup (.cons (.int 2) (.cons (.int 1) .nil))) (.cons (.tup (.cons (.int 1) (.cons (.int 1) .nil))) (.cons (.lst (.cons (.int 1) .nil)) (.cons (.tup (.cons (.bl true) .nil)) (.cons (.tup (.cons (.neg (.int 1)) .nil)) (.cons (.int 1) .nil))))))))) (.cons (.set 1 (.mkl (.bin .add (.var 1) (.lc (.nm 4) (.tup (.cons (.gfn 3) (.cons (.gfn 10) .nil))) .nil (.err 100000 (.callv 4 (.cons (.int 5) (.cons (.int 1) (.cons (.var 6) .nil))))))))) .nil)) (.cons (.for (.nm 6) (.tup (.cons .non (.cons (.tup (.cons (.int 30) .nil)) (.cons (.tup (.cons (.int 0) .nil)) (.cons (.tup (.cons (.int 1) (.cons (.int 2) .nil))) (.cons (.lst (.cons (.int 1) .nil)) (.cons (.tup (.cons (.bl true) .nil)) .nil))))))) (.cons (.app (.var 1) (.err 100000 (.call 19 (.cons (.int 2) (.cons (.int 1) (.cons (.var 6) (.cons .non (.cons .non .nil)))))))) (.cons (.app (.var 1) (.err 100000 (.call 13 (.cons (.int 2) (.cons (.int 1) (.cons (.var 6) (.cons .non .nil))))))) .nil))) (.cons (.app (.var 1) (.err 100000 (.call 13 (.cons (.int 2) (.cons (.int 1) (.cons (.tup (.cons (.int 3) .nil)) (.cons (.tup (.cons (.int 0) (.cons (.int 0) (.cons (.int 0) .nil)))) .nil))))))) (.cons (.app (.var 1) (.err 100000 (.call 19 (.cons (.int 2) (.cons (.int 2) (.cons (.tup (.cons (.int 3) .nil)) (.cons (.tup (.cons (.int 0) .nil)) (.cons (.tup (.cons (.int 1) .nil)) .nil)))))))) (.cons (.ite (.cmp .ne (.var 1) (.bin .mul (.lst (.cons (.str "set") .nil)) (.int 30))) (.cons (.ret (.bl false)) .nil) .nil) (.cons (.set 1 (.mkl (.lst .nil))) (.cons (.for (.nm 7) (.tup (.cons .non (.cons (.tup (.cons (.int 2) .nil)) (.cons (.lst (.cons (.int 0) .nil)) (.cons (.tup (.cons (.bl true) .nil)) (.cons (.tup (.cons (.neg (.int 1)) .nil)) (.cons (.int 0) (.cons (.bin .mul (.tup (.cons (.int 0) .nil)) (.int 31)) (.cons (.tup (.cons .non .nil)) .nil))))))))) (.cons (.app (.var 1) (.err 100000 (.call 13 (.cons (.int 2) (.cons (.int 1) (.cons (.tup .nil) (.cons (.var 7) .nil))))))) (.cons (.app (.var 1) (.err 100000 (.call 19 (.cons (.int 2) (.cons (.int 1) (.cons (.tup .nil) (.cons (.var 7) (.cons (.tup .nil) .nil)))))))) (.cons (.app (.var 1) (.err 100000 (.call 19 (.cons (.int 2) (.cons (.int 1) (.cons (.tup .nil) (.cons (.tup .nil) (.cons (.var 7) .nil)))))))) .nil)))) (.cons (.app (.var 1) (.err 100000 (.call 19 (.cons (.int 2) (.cons (.int 1) (.cons (.tup .nil) (.cons (.tup .nil) (.cons (.tup (.cons (.int 0) (.cons (.int 0) .nil))) .nil)))))))) (.cons (.app (.var 1) (.err 100000 (.call 19 (.cons (.int 2) (.cons (.int 3) (.cons (.tup .nil) (.cons (.bin .mul (.tup (.cons (.int 0) .nil)) (.int 28)) (.cons (.tup (.cons (.int 0) (.cons (.int 0) .nil))) .nil)))))))) (.cons (.app (.var 1) (.err 100000 (.call 13 (.cons (.int 2) (.cons (.int 1) (.cons (.tup .nil) (.cons (.tup .nil) .nil))))))) (.cons (.ret (.cmp .eq (.frz 1) (.bin .mul (.lst (.cons (.str "hats") .nil)) (.int 27)))) .nil))))))))))))))))
def b27 : Sz := (.cons (.ret (.idx (.var 1) (.call 23 (.cons (.var 0) (.cons (.bf .len (.cons (.var 1) .nil)) .nil))))) .nil)
def b28 : Sz := (.cons (.set 2 (.lc (.nm 3) (.call 29 (.cons (.var 0) .nil)) (.cmp .isN (.call 2 (.cons (.var 1) (.cons (.var 3) .nil))) .non) (.var 3))) (.cons (.set 4 (.bf .max1 (.cons (.lc (.nm 3) (.var 2) .nil (.bf .len (.cons (.var 3) .nil))) .nil))) (.cons (.set 5 (.bf .minD (.cons (.lc (.nm 3) (.var 2) (.cmp .eq (.bf .len (.cons (.var 3) .nil)) (.var 4)) (.var 3)) .nil))) (.cons (.ite (.not (.call 11 (.cons (.lst (.cons (.call 22 (.cons (.var 0) (.cons (.var 1) .nil))) (.cons (.call 21 (.cons (.var 0) (.cons (.var 1) .nil))) .nil))) (.cons (.lst (.cons (.var 4) (.cons (.var 5) .nil))) .nil)))) (.cons (.ret (.bl false)) .nil) .nil) (.cons (.for (.nm 3) (.call 29 (.cons (.var 0) .nil)) (.cons (.set 6 (.call 2 (.cons (.var 1) (.cons (.var 3) .nil)))) (.cons (.ite (.not (.call 11 (.cons (.lst (.cons (.call 3 (.cons (.var 0) (.cons (.var 1) (.cons (.var 3) .nil)))) (.cons (.call 10 (.cons (.var 0) (.cons (.var 1) (.cons (.var 3) .nil)))) .nil))) (.cons (.lst (.cons (.cmp .isN (.var 6) .non) (.cons (.var 6) .nil))) .nil)))) (.cons (.ret (.bl false)) .nil) .nil) .nil))) (.cons (.ret (.bl true)) .nil))))))
def b29 : Sz := (.cons (.set 1 (.lst (.cons (.tup .nil) .nil))) (.cons (.for (.nm 2) (.range1 (.var 0)) (.cons (.set 1 (.bin .add (.var 1) (.lc (.nm 3) (.var 1) .nil (.bin .add (.var 3) (.tup (.cons (.var 2) .nil)))))) .nil)) (.cons (.ret (.var 1)) .nil)))
def b30 : Sz := (.cons (.for (.nm 4) (.call 31 (.cons (.var 0) (.cons (.var 3) .nil))) (.cons (.set 5 (.call 13 (.cons (.var 3) (.cons (.var 1) (.cons (.var 2) (.cons (.var 4) .nil)))))) (.cons (.ite (.cmp .ne (.lc (.nm 6) (.var 2) (.cmp .ne (.idx (.var 5) (.var 6)) (.idx (.var 4) (.var 6))) (.var 6)) (.lst .nil)) (.cons (.ret (.bl false)) .nil) .nil) .nil))) (.cons (.ret (.bl true)) .nil))
def b31 : Sz := (.cons (.set 2 (.lst (.cons (.tup .nil) .nil))) (.cons (.for (.nm 3) (.range1 (.var 0)) (.cons (.set 4 (.lst .nil)) (.cons (.for (.nm 5) (.var 2) (.cons (.set 4 (.bin .add (.var 4) (.lc (.nm 6) (.range1 (.var 1)) .nil (.bin .add (.var 5) (.tup (.cons (.var 6) .nil)))))) .nil)) (.cons (.set 2 (.var 4)) .nil)))) (.cons (.ret (.var 2)) .nil)))
def d0 : Dr := ⟨"law", top 42, ["script", "cup", "turn", "n", "m", "k", "players", "player", "drawn", "bad", "told"], ["script"], b0, false⟩
def d1 : Dr := ⟨"_law_cup", top 27, ["script", "cell"], ["script"], b1, false⟩
def d2 : Dr := ⟨"_law_bad", top 34, ["m", "players", "player", "ahead", "one"], ["m", "players"], b2, false⟩
def d3 : Dr := ⟨"can_be_sure", top 20, ["n", "m", "players"], ["n", "m", "players"], b3, false⟩
def d4 : Dr := ⟨"need_set", top 15, ["n", "m", "players"], ["n", "m", "players"], b4, false⟩
def d5 : Dr := ⟨"need_whole", top 7, ["value", "low", "high"], ["value", "low", "high"], b5, false⟩
def d6 : Dr := ⟨"is_whole", top 6, ["value", "low", "high"], ["value", "low", "high"], b6, false⟩
def d7 : Dr := ⟨"is_set_below", top 10, ["value", "many", "one"], ["value", "many"], b7, false⟩
def d8 : Dr := ⟨"is_ascending", top 9, ["values", "one", "other"], ["values"], b8, false⟩
def d9 : Dr := ⟨"first_bad", top 14, ["m", "players", "player", "one"], ["m", "players"], b9, false⟩
def d10 : Dr := ⟨"unsure_player", top 21, ["n", "m", "players"], ["n", "m", "players"], b10, false⟩
def d11 : Dr := ⟨"_law_like", top 31, ["one", "other", "sort", "first", "second"], ["one", "other"], b11, false⟩
def d12 : Dr := ⟨"_law_sort", top 30, ["value"], ["value"], b12, false⟩
def d13 : Dr := ⟨"line_calls", top 25, ["k", "m", "players", "hats", "player", "heard", "at"], ["k", "m", "players", "hats"], b13, false⟩
def d14 : Dr := ⟨"need_sure", top 16, ["k", "m", "players"], ["k", "m", "players"], b14, false⟩
def d15 : Dr := ⟨"is_tuple_of", top 8, ["value", "low", "high"], ["value", "low", "high"], b15, false⟩
def d16 : Dr := ⟨"are_colours", top 17, ["k", "value", "hat"], ["k", "value"], b16, false⟩
def d17 : Dr := ⟨"call_of", top 19, ["k", "players", "heard", "hats", "at", "seen", "last", "one"], ["k", "players", "heard", "hats"], b17, false⟩
def d18 : Dr := ⟨"run_sum", top 18, ["players", "first", "hats", "found", "step", "hat"], ["players", "first", "hats"], b18, false⟩
def d19 : Dr := ⟨"line_call", top 24, ["k", "m", "players", "heard", "hats", "many", "player"], ["k", "m", "players", "heard", "hats"], b19, false⟩
def d20 : Dr := ⟨"_law_great", top 40, ["cup", "told", "k", "m", "players", "hats", "player"], ["cup"], b20, false⟩
def d21 : Dr := ⟨"first_sure", top 23, ["n", "m", "player"], ["n", "m"], b21, false⟩
def d22 : Dr := ⟨"most_sure", top 22, ["n", "m"], ["n", "m"], b22, false⟩
def d23 : Dr := ⟨"_law_roll", top 28, ["cup", "many", "found", "deep"], ["cup", "many"], b23, false⟩
def d24 : Dr := ⟨"_law_line_right", top 37, ["cup", "k", "m", "players", "hats", "calls", "at", "hat", "due", "told", "heard", "one", "seen"], ["cup", "k", "m", "players", "hats"], b24, false⟩
def d25 : Dr := ⟨"_law_call", top 36, ["k", "m", "players", "heard", "hats", "at", "run", "step", "hat", "one", "last"], ["k", "m", "players", "heard", "hats"], b25, false⟩
def d26 : Dr := ⟨"_law_errors", top 41, ["cup", "words", "n", "m", "call", "k", "players", "hats"], ["cup"], b26, true⟩
def d27 : Dr := ⟨"_law_some", top 29, ["cup", "things"], ["cup", "things"], b27, false⟩
def d28 : Dr := ⟨"_law_sets_right", top 38, ["n", "m", "good", "some", "most", "first", "bad"], ["n", "m"], b28, false⟩
def d29 : Dr := ⟨"_law_sets", top 35, ["n", "found", "player", "some"], ["n"], b29, false⟩
def d30 : Dr := ⟨"_law_all_right", top 39, ["n", "m", "players", "k", "hats", "calls", "one"], ["n", "m", "players", "k"], b30, false⟩
def d31 : Dr := ⟨"_law_cases", top 32, ["n", "k", "found", "turn", "longer", "case", "hat"], ["n", "k"], b31, false⟩
def ds : List Dr := [d0, d1, d2, d3, d4, d5, d6, d7, d8, d9, d10, d11, d12, d13, d14, d15, d16, d17, d18, d19, d20, d21, d22, d23, d24, d25, d26, d27, d28, d29, d30, d31]
def eb0 : Sz := (.cons (.set 1 (.mkl (.lst .nil))) (.cons (.app (.var 1) (.tup (.cons (.str "number") (.cons (.isx (.var 5) 0) .nil)))) (.cons (.app (.var 1) (.tup (.cons (.str "set") (.cons (.isx (.var 5) 1) .nil)))) (.cons (.app (.var 1) (.tup (.cons (.str "hats") (.cons (.isx (.var 5) 2) .nil)))) (.cons (.set 2 (.lc (.tp (.cons (.nm 3) (.cons (.nm 4) .nil))) (.frz 1) (.var 4) (.var 3))) (.cons (.ret (.ife (.cmp .ne (.var 2) (.lst .nil)) (.join " " (.var 2)) (.str "other"))) .nil))))))
def e0 : Er := ⟨"_law_fails", top 33, ["call", "some", "words", "word", "good", "e"], 5, "GameError", eb0, ""⟩
def exs : List (Str × Bool) := [("InvalidNumber", true), ("InvalidSet", true), ("InvalidHats", true)]
def tx : Tx := ⟨ds, exs, [e0], 1, 23⟩
def ks : List (Str × Kon) := [("LINE", .int 30), ("COLOURS", .int 10)]
def gc : Bool := false
theorem tok : TabOk tx (ks.map (·.1)) gc where
  ck := by
    have h : (tx.ds.all fun d => ckDr (tx.sh (ks.map (·.1)) gc) d) = true := by decide +kernel
    exact List.all_eq_true.mp h
  ce := by
    have h : (tx.es.all fun d => ckEr tx.exs d) = true := by decide +kernel
    exact List.all_eq_true.mp h
  cup := fun d h => by
    cases h
    exact ⟨rfl, rfl, rfl⟩
  roll := fun d h => by
    cases h
    exact ⟨rfl, rfl, rfl⟩
  ne := by decide
  small := by decide
theorem bnd : ∀ d ∈ tx.ds, bindsB d := by
  intro d hd
  simp only [tx, ds, List.mem_cons, List.not_mem_nil, or_false] at hd
  rcases hd with rfl | rfl | rfl | rfl | rfl | rfl | rfl | rfl | rfl | rfl | rfl | rfl | rfl | rfl | rfl | rfl | rfl | rfl | rfl | rfl | rfl | rfl | rfl | rfl | rfl | rfl | rfl | rfl | rfl | rfl | rfl | rfl
  · exact fun _ _ _ _ _ _ us hl => match us, hl with | [_], _ => rfl
  · exact fun _ _ _ _ _ _ us hl => match us, hl with | [_], _ => rfl
  · exact fun _ _ _ _ _ _ us hl => match us, hl with | [_, _], _ => rfl
  · exact fun _ _ _ _ _ _ us hl => match us, hl with | [_, _, _], _ => rfl
  · exact fun _ _ _ _ _ _ us hl => match us, hl with | [_, _, _], _ => rfl
  · exact fun _ _ _ _ _ _ us hl => match us, hl with | [_, _, _], _ => rfl
  · exact fun _ _ _ _ _ _ us hl => match us, hl with | [_, _, _], _ => rfl
  · exact fun _ _ _ _ _ _ us hl => match us, hl with | [_, _], _ => rfl
  · exact fun _ _ _ _ _ _ us hl => match us, hl with | [_], _ => rfl
  · exact fun _ _ _ _ _ _ us hl => match us, hl with | [_, _], _ => rfl
  · exact fun _ _ _ _ _ _ us hl => match us, hl with | [_, _, _], _ => rfl
  · exact fun _ _ _ _ _ _ us hl => match us, hl with | [_, _], _ => rfl
  · exact fun _ _ _ _ _ _ us hl => match us, hl with | [_], _ => rfl
  · exact fun _ _ _ _ _ _ us hl => match us, hl with | [_, _, _, _], _ => rfl
  · exact fun _ _ _ _ _ _ us hl => match us, hl with | [_, _, _], _ => rfl
  · exact fun _ _ _ _ _ _ us hl => match us, hl with | [_, _, _], _ => rfl
  · exact fun _ _ _ _ _ _ us hl => match us, hl with | [_, _], _ => rfl
  · exact fun _ _ _ _ _ _ us hl => match us, hl with | [_, _, _, _], _ => rfl
  · exact fun _ _ _ _ _ _ us hl => match us, hl with | [_, _, _], _ => rfl
  · exact fun _ _ _ _ _ _ us hl => match us, hl with | [_, _, _, _, _], _ => rfl
  · exact fun _ _ _ _ _ _ us hl => match us, hl with | [_], _ => rfl
  · exact fun _ _ _ _ _ _ us hl => match us, hl with | [_, _], _ => rfl
  · exact fun _ _ _ _ _ _ us hl => match us, hl with | [_, _], _ => rfl
  · exact fun _ _ _ _ _ _ us hl => match us, hl with | [_, _], _ => rfl
  · exact fun _ _ _ _ _ _ us hl => match us, hl with | [_, _, _, _, _], _ => rfl
  · exact fun _ _ _ _ _ _ us hl => match us, hl with | [_, _, _, _, _], _ => rfl
  · exact fun _ _ _ _ _ _ us hl => match us, hl with | [_], _ => rfl
  · exact fun _ _ _ _ _ _ us hl => match us, hl with | [_, _], _ => rfl
  · exact fun _ _ _ _ _ _ us hl => match us, hl with | [_, _], _ => rfl
  · exact fun _ _ _ _ _ _ us hl => match us, hl with | [_], _ => rfl
  · exact fun _ _ _ _ _ _ us hl => match us, hl with | [_, _, _, _], _ => rfl
  · exact fun _ _ _ _ _ _ us hl => match us, hl with | [_, _], _ => rfl
theorem bnde : ∀ e ∈ tx.es, bindsE e := by
  intro e he
  simp only [tx, List.mem_cons, List.not_mem_nil, or_false] at he
  rcases he with rfl
  · exact fun _ _ _ _ _ _ us hl => match us, hl with | [_], _ => rfl
abbrev R : PySem.W.OpenRow := PySem.W.OpenLaw.row PySem.Challenge.rw_gamesweighed_k58_whole_hats_in_a_line
abbrev hk : PySem.W.Hook := hkOf 5 tx ks gc
def obs (s : PySem.W.SharedT) : He.AlX := He.obsX 5 (faOf tx ks) (dfs tx) [] (tfOf tx) (exOf gc tx) (HandSHeadRun.getT s)
theorem obs_eq (s : PySem.W.SharedT) : obs s = hk.obs s.abs := He.obsX_eq (HandSHeadRun.getT_eq s)
def loose : List Str := (["is_whole", "need_whole", "is_tuple_of", "is_ascending", "is_set_below", "first_bad", "need_set", "need_sure", "are_colours", "run_sum", "call_of", "can_be_sure", "unsure_player", "most_sure", "first_sure", "line_call", "line_calls", "_law_cup", "_law_roll", "_law_some", "_law_sort", "_law_like", "_law_cases", "_law_fails", "_law_bad", "_law_sets", "_law_call", "_law_line_right", "_law_sets_right", "_law_all_right"] : List Str) ++ (["_law_great", "_law_errors", "GameError", "InvalidNumber", "InvalidSet", "InvalidHats", "LINE", "COLOURS"] : List Str)
theorem hrun (w : World) : HandSHeadRun.RunEq R (PySem.W.view R.prog [42]) hk obs 4000 loose w := by
  intro os
  kernel_rfl
end Row
namespace Row
open PySem DL
abbrev F (n : Nat) : Nat → List D → M D := tabF (kcOf ks) tx n
theorem k0 : kcOf ks 0 = .int 30 := rfl
theorem k1 : kcOf ks 1 = .int 10 := rfl
def dat : D → Bool
  | .non => true
  | .bl _ => true
  | .int _ => true
  | .str _ => true
  | .tup _ => true
  | .lst _ => true
  | _ => false
theorem res_dat {v : D} (h : dat v = true) : res v = M.pure v := by cases v <;> first | rfl | cases h
def whB (lo hi : Int) : D → Bool
  | .int v => decide (lo ≤ v ∧ v ≤ hi)
  | _ => false
def tupB (lo hi : Int) : D → Bool
  | .tup xs => decide (lo ≤ (xs.length : Int) ∧ (xs.length : Int) ≤ hi)
  | _ => false
theorem isinI {v : D} (h : dat v = true) : bfop .isin [v, .ty "int"] = M.pure (.bl (match v with
    | .int _ => true
    | .bl _ => true
    | _ => false)) := by cases v <;> first | rfl | cases h
theorem isinBl {v : D} (h : dat v = true) : bfop .isin [v, .ty "bool"] = M.pure (.bl (match v with
    | .bl _ => true
    | _ => false)) := by cases v <;> first | rfl | cases h
theorem isinT {v : D} (h : dat v = true) : bfop .isin [v, .ty "tuple"] = M.pure (.bl (match v with
    | .tup _ => true
    | _ => false)) := by cases v <;> first | rfl | cases h
theorem is_whole (n : Nat) (v : D) (lo hi : Int) (h : dat v = true) : F (n + 1) 6 [v, .int lo, .int hi] = M.pure (.bl (whB lo hi v)) := by
  unfold F
  rw [call_at (d := d6) rfl rfl _ rfl, run_eq]
  have e1 := isinI h
  have e2 := isinBl h
  cases v with
  | int v =>
    simp -implicitDefEqProofs [d6, b6, evS, DL.get, chain_b, whB]
    by_cases h : lo ≤ v <;> simp -implicitDefEqProofs [h]
  | non => simp -implicitDefEqProofs [d6, b6, evS, DL.get, e1, whB]
  | bl q => simp -implicitDefEqProofs [d6, b6, evS, DL.get, e1, e2, whB]
  | str x => simp -implicitDefEqProofs [d6, b6, evS, DL.get, e1, whB]
  | tup x => simp -implicitDefEqProofs [d6, b6, evS, DL.get, e1, whB]
  | lst x => simp -implicitDefEqProofs [d6, b6, evS, DL.get, e1, whB]
  | _ => cases h
theorem is_tuple_of (n : Nat) (v : D) (lo hi : Int) (h : dat v = true) : F (n + 1) 15 [v, .int lo, .int hi] = M.pure (.bl (tupB lo hi v)) := by
  unfold F
  rw [call_at (d := d15) rfl rfl _ rfl, run_eq]
  have e1 := isinT h
  cases v with
  | tup xs =>
    simp -implicitDefEqProofs [d15, b15, evS, DL.get, chain_b, tupB, e1]
    by_cases h : lo ≤ (xs.length : Int) <;> simp -implicitDefEqProofs [h]
  | non => simp -implicitDefEqProofs [d15, b15, evS, DL.get, e1, tupB]
  | bl q => simp -implicitDefEqProofs [d15, b15, evS, DL.get, e1, tupB]
  | int q => simp -implicitDefEqProofs [d15, b15, evS, DL.get, e1, tupB]
  | str x => simp -implicitDefEqProofs [d15, b15, evS, DL.get, e1, tupB]
  | lst x => simp -implicitDefEqProofs [d15, b15, evS, DL.get, e1, tupB]
  | _ => cases h
theorem need_whole (n : Nat) (v : D) (lo hi : Int) (h : dat v = true) : F (n + 2) 5 [v, .int lo, .int hi] = if whB lo hi v = true then M.pure .non else throwM 0 := by
  unfold F
  rw [call_at (d := d5) rfl rfl _ rfl, run_eq]
  have e := is_whole n v lo hi h
  unfold F at e
  generalize whB lo hi v = q at *
  cases q <;> simp -implicitDefEqProofs [d5, b5, evS, DL.get, res_dat h, e]
theorem ev_lc_t {C : Nat → List D → M D} {K : Nat → D} {tg : Tz} {it cond elt : Ez} {ρ : DL.Env} : (ev C K (.lc tg it cond elt)).t ρ = M.bind ((ev C K (.lc tg it cond elt)).e ρ) truth := rfl
/-! ### players -/
def tI (ps : List Int) : D := .tup (ps.map D.int)
/-- a tuple or a list of ints -/
def PD (t : D) (ps : List Int) : Prop := t = .tup (ps.map D.int) ∨ t = .lst (ps.map D.int)
theorem any_int (ps : List Int) (a : Int) : (ps.map D.int).any (fun y => D.eqF y (.int a)) = decide (a ∈ ps) := by
  rw [List.any_map]
  induction ps with
  | nil => simp
  | cons p ps ih =>
    rw [List.any_cons, ih]
    show ((p == a) || _) = _
    by_cases c : a = p
    · subst c; simp
    · have : (p == a) = false := beq_eq_false_iff_ne.mpr fun e => c e.symm
      rw [this]
      simp [c]
theorem flat_ints (ps : List Int) : (ps.map D.int).all D.flat = true := by
  rw [List.all_map]
  exact List.all_eq_true.mpr fun _ _ => rfl
theorem nmem_ {t : D} {ps : List Int} (h : PD t ps) (a : Int) : cmpop .nmem (.int a) t = M.pure (.bl (!decide (a ∈ ps))) := by
  have e : seqA t = M.pure (ps.map D.int) := by rcases h with rfl | rfl <;> rfl
  show M.bind (seqA t) (fun xs => if (D.int a).flat && xs.all D.flat then M.pure (D.bl !(xs.any fun y => D.eqF y (.int a))) else M.bad) = _
  rw [e, pb, flat_ints, any_int]
  rfl
theorem mem_ {t : D} {ps : List Int} (h : PD t ps) (a : Int) : cmpop .mem (.int a) t = M.pure (.bl (decide (a ∈ ps))) := by
  have e : seqA t = M.pure (ps.map D.int) := by rcases h with rfl | rfl <;> rfl
  show M.bind (seqA t) (fun xs => if (D.int a).flat && xs.all D.flat then M.pure (D.bl (xs.any fun y => D.eqF y (.int a))) else M.bad) = _
  rw [e, pb, flat_ints, any_int]
  rfl
theorem PD.res {t : D} {ps : List Int} (h : PD t ps) : res t = M.pure t := by rcases h with rfl | rfl <;> rfl
theorem PD.still {t : D} {ps : List Int} (h : PD t ps) : still t = M.pure (ps.map D.int) := by rcases h with rfl | rfl <;> rfl
def rgI (i j : Int) : List Int := (List.range (j - i).toNat).map fun (k : Nat) => i + (k : Int)
theorem mem_rgI {i j x : Int} : x ∈ rgI i j ↔ i ≤ x ∧ x < j := by
  unfold rgI
  simp only [List.mem_map, List.mem_range]
  constructor
  · rintro ⟨k, h, rfl⟩; omega
  · intro h; exact ⟨(x - i).toNat, by omega, by omega⟩
theorem rng2_ {i j : Int} (hi : -1000000 ≤ i ∧ i ≤ 1000000) (hj : -1000000 ≤ j ∧ j ≤ 1000000) : rng2 (.int i) (.int j) = M.pure ((rgI i j).map D.int) := by
  show (if (-lim ≤ i ∧ i < lim) ∧ (-lim ≤ j ∧ j < lim) then _ else M.bad) = _
  rw [if_pos (by unfold lim; omega)]
  unfold rgI
  rw [List.map_map]
  rfl
theorem lcFil {tg : Tz} {C : Nat → List D → M D} {K : Nat → D} {c e : Ez} {ρ : DL.Env} {P : Int → Bool} (xs : List Int) (h : ∀ x ∈ xs, lcTurn tg (ev C K c).t (ev C K e).e ρ (.int x) = M.pure (if P x = true then some (.int x) else none)) : lcGo (xs.map D.int) (lcTurn tg (ev C K c).t (ev C K e).e ρ) = M.pure ((xs.filter P).map D.int) := by
  rw [lcGo_map (g := fun d => match d with
    | .int x => if P x = true then some (.int x) else none
    | _ => none) (xs.map D.int) fun d hd => by
    obtain ⟨x, hx, rfl⟩ := List.mem_map.mp hd
    exact h x hx]
  congr 1
  clear h
  induction xs with
  | nil => rfl
  | cons x xs ih =>
    rw [List.map_cons, List.filterMap_cons, ih, List.filter_cons]
    cases hP : P x <;> simp [hP]
theorem len_rgI (i j : Int) : (rgI i j).length = (j - i).toNat := by unfold rgI; simp
/-- all of those ahead are players -/
def blk (m : Int) (ps : List Int) (p : Int) : Bool := (rgI (if p - m > 0 then p - m else 0) p).all fun j => decide (j ∈ ps)
def badN (m : Int) (ps : List Int) : Option Int := ps.find? (blk m ps)
def optD : Option Int → D
  | none => .non
  | some p => .int p
def lb9 : Sz := (.cons (.ite (.not (.lc (.nm 3) (.range2 (.bf .max2 (.cons (.int 0) (.cons (.bin .sub (.var 2) (.var 0)) .nil))) (.var 2)) (.cmp .nmem (.var 3) (.var 1)) (.var 3))) (.cons (.ret (.var 2)) .nil) .nil) .nil)
theorem eb9 : d9.body = .cons (.for (.nm 2) (.var 1) lb9) (.cons (.ret .non) .nil) := rfl
theorem filt_empty {xs ps : List Int} : ((xs.filter fun j => !decide (j ∈ ps)).map D.int).isEmpty = xs.all fun j => decide (j ∈ ps) := by
  induction xs with
  | nil => rfl
  | cons x xs ih =>
    rw [List.filter_cons, List.all_cons, ← ih]
    by_cases c : x ∈ ps
    · simp [c]
    · simp [c]
section
variable {C : Nat → List D → M D} {K : Nat → D} {t : D} {ps : List Int} (h : PD t ps) {m : Int} (hm : 0 ≤ m ∧ m ≤ 1000)
include h hm
theorem turn9 {p : Int} (hp : 0 ≤ p ∧ p ≤ 1000) (x : Option D) : M.bind (M.opt (bindT (.nm 2) (.int p) [some (.int m), some t, x, none])) (evS C K lb9) = if blk m ps p = true then M.pure (.rt (.int p)) else M.pure (.nx [some (.int m), some t, some (.int p), none]) := by
  have mx : bfop .max2 [.int 0, .int (p - m)] = M.pure (.int (if p - m > 0 then p - m else 0)) := rfl
  have e0 : rng2 (.int (if p - m > 0 then p - m else 0)) (.int p) = M.pure ((rgI (if p - m > 0 then p - m else 0) p).map D.int) := rng2_ (by split <;> omega) (by omega)
  have hlen : lenOk ((rgI (if p - m > 0 then p - m else 0) p).map D.int) = M.pure ((rgI (if p - m > 0 then p - m else 0) p).map D.int) := lenOk_le (by
    rw [List.length_map, len_rgI]
    split <;> omega)
  have hlc := lcFil (tg := .nm 3) (C := C) (K := K) (c := .cmp .nmem (.var 3) (.var 1)) (e := .var 3) (ρ := [some (.int m), some t, some (.int p), none]) (P := fun j => !decide (j ∈ ps)) (rgI (if p - m > 0 then p - m else 0) p) (fun x _ => by
    have hn := nmem_ h x
    by_cases c : x ∈ ps
    · rw [decide_eq_true c] at hn
      simp -implicitDefEqProofs [lcTurn, wipeE, Tz.slots, bindT, DL.get, h.res, hn, c]
    · rw [decide_eq_false c] at hn
      simp -implicitDefEqProofs [lcTurn, wipeE, Tz.slots, bindT, DL.get, h.res, hn, c])
  have he := filt_empty (xs := rgI (if p - m > 0 then p - m else 0) p) (ps := ps)
  unfold blk
  generalize ((rgI (if p - m > 0 then p - m else 0) p).filter fun j => !decide (j ∈ ps)).map D.int = fl at *
  generalize (rgI (if p - m > 0 then p - m else 0) p).all (fun j => decide (j ∈ ps)) = b at *
  generalize (rgI (if p - m > 0 then p - m else 0) p).map D.int = rg at *
  generalize (if p - m > 0 then p - m else 0) = lo at *
  have hs := h.res
  cases b with
  | true =>
    have he' : fl = [] := List.isEmpty_iff.mp he
    simp -implicitDefEqProofs [-bf_max, ev_lc_t, bindT, lb9, evS, DL.get, mx, e0, hlen, hlc, he']
  | false =>
    have he' : fl ≠ [] := fun q => by rw [q] at he; cases he
    simp -implicitDefEqProofs [-bf_max, ev_lc_t, bindT, lb9, evS, DL.get, mx, e0, hlen, hlc, he']
theorem loop9 : ∀ (qs : List Int) (x : Option D), (∀ p ∈ qs, 0 ≤ p ∧ p ≤ 1000) → ∃ y, forGo (.nm 2) (evS C K lb9) (qs.map D.int) [some (.int m), some t, x, none] = M.pure (match qs.find? (blk m ps) with
    | some p => .rt (.int p)
    | none => .nx [some (.int m), some t, y, none])
  | [], x, _ => ⟨x, rfl⟩
  | p :: qs, x, hq => by
    obtain ⟨y, ih⟩ := loop9 qs (some (.int p)) fun q hq' => hq q (List.mem_cons_of_mem _ hq')
    refine ⟨y, ?_⟩
    rw [List.map_cons]
    show M.bind (M.opt (bindT (.nm 2) (.int p) _)) (fun ρ' => M.bind (evS C K lb9 ρ') _) = _
    rw [← bb, turn9 h hm (hq p List.mem_cons_self), List.find?_cons]
    cases c : blk m ps p with
    | true => rfl
    | false =>
      rw [if_neg Bool.false_ne_true, pb]
      exact ih
end
theorem bad9 (n : Nat) {t : D} {ps : List Int} (h : PD t ps) {m : Int} (hm : 0 ≤ m ∧ m ≤ 1000) (hp : ∀ p ∈ ps, 0 ≤ p ∧ p ≤ 1000) : F (n + 1) 9 [.int m, t] = M.pure (optD (badN m ps)) := by
  unfold F
  rw [call_at (d := d9) rfl rfl _ rfl, run_eq, eb9]
  have hN : d9.N.length = 4 := rfl
  rw [hN]
  obtain ⟨y, e⟩ := loop9 (C := tabF (kcOf ks) tx n) (K := kcOf ks) h hm ps none hp
  unfold badN
  generalize ps.find? (blk m ps) = o at *
  have hs := h.still
  have hr := h.res
  generalize lb9 = B at *
  cases o with
  | none => simp -implicitDefEqProofs [evS, DL.get, hr, hs, e, optD]
  | some p => simp -implicitDefEqProofs [evS, DL.get, hr, hs, e, optD]
end Row
namespace Row
open PySem DL
theorem lk : LikeAt tx 12 11 := ⟨⟨d12, rfl, rfl, rfl, rfl⟩, ⟨d11, rfl, rfl, rfl, rfl⟩, rfl, rfl⟩
def lb2 : Sz := (.cons (.set 3 (.lc (.nm 4) (.range2 (.bin .sub (.var 2) (.var 0)) (.var 2)) (.cmp .ge (.var 4) (.int 0)) (.var 4))) (.cons (.ite (.cmp .eq (.lc (.nm 4) (.var 3) (.cmp .nmem (.var 4) (.var 1)) (.var 4)) (.lst .nil)) (.cons (.ret (.var 2)) .nil) .nil) .nil))
theorem eb2 : d2.body = .cons (.for (.nm 2) (.var 1) lb2) (.cons (.ret .non) .nil) := rfl
theorem eq_nilI (xs : List Int) : cmpop .eq (.lst (xs.map D.int)) (.lst []) = M.pure (.bl (xs.map D.int).isEmpty) := by
  rw [eq_plain (by rw [D.plain]; exact plains_ints) (by simp [D.plain, D.plains]), D.eqP, eqPs_nil]
section
variable {C : Nat → List D → M D} {K : Nat → D} {t : D} {ps : List Int} (h : PD t ps) {m : Int} (hm : 0 ≤ m ∧ m ≤ 1000)
include h hm
theorem turn2 {p : Int} (hp : 0 ≤ p ∧ p ≤ 1000) (x w3 : Option D) : ∃ w, M.bind (M.opt (bindT (.nm 2) (.int p) [some (.int m), some t, x, w3, none])) (evS C K lb2) = if blk m ps p = true then M.pure (.rt (.int p)) else M.pure (.nx [some (.int m), some t, some (.int p), w, none]) := by
  have e0 : rng2 (.int (p - m)) (.int p) = M.pure ((rgI (p - m) p).map D.int) := rng2_ (by omega) (by omega)
  have hlen : lenOk ((rgI (p - m) p).map D.int) = M.pure ((rgI (p - m) p).map D.int) := lenOk_le (by
    rw [List.length_map, len_rgI]
    omega)
  have hl1 := lcFil (tg := .nm 4) (C := C) (K := K) (c := .cmp .ge (.var 4) (.int 0)) (e := .var 4) (ρ := [some (.int m), some t, some (.int p), w3, none]) (P := fun j => decide (0 ≤ j)) (rgI (p - m) p) (fun x _ => by
    by_cases c : 0 ≤ x
    · simp -implicitDefEqProofs [lcTurn, wipeE, Tz.slots, bindT, DL.get, c]
    · simp -implicitDefEqProofs [lcTurn, wipeE, Tz.slots, bindT, DL.get, c])
  have hal : ((rgI (p - m) p).filter fun j => decide (0 ≤ j)).all (fun j => decide (j ∈ ps)) = blk m ps p := by
    rw [Bool.eq_iff_iff]
    unfold blk
    rw [List.all_eq_true, List.all_eq_true]
    constructor
    · intro hh j hj
      refine hh j (List.mem_filter.mpr ⟨mem_rgI.mpr ?_, ?_⟩)
      · have := mem_rgI.mp hj
        split at this <;> omega
      · have := mem_rgI.mp hj
        exact decide_eq_true (by split at this <;> omega)
    · intro hh j hj
      obtain ⟨h1, h2⟩ := List.mem_filter.mp hj
      have h1 := mem_rgI.mp h1
      have h2 := of_decide_eq_true h2
      exact hh j (mem_rgI.mpr (by split <;> omega))
  have hlA : ((rgI (p - m) p).filter fun j => decide (0 ≤ j)).length ≤ 8000 := Nat.le_trans (List.length_filter_le ..) (by rw [len_rgI]; omega)
  generalize ((rgI (p - m) p).filter fun j => decide (0 ≤ j)) = ah at *
  have hlen2 : lenOk (ah.map D.int) = M.pure (ah.map D.int) := lenOk_le (by rw [List.length_map]; exact hlA)
  have hl2 := lcFil (tg := .nm 4) (C := C) (K := K) (c := .cmp .nmem (.var 4) (.var 1)) (e := .var 4) (ρ := [some (.int m), some t, some (.int p), some (.lst (ah.map D.int)), none]) (P := fun j => !decide (j ∈ ps)) ah (fun x _ => by
    have hn := nmem_ h x
    by_cases c : x ∈ ps
    · rw [decide_eq_true c] at hn
      simp -implicitDefEqProofs [lcTurn, wipeE, Tz.slots, bindT, DL.get, h.res, hn, c]
    · rw [decide_eq_false c] at hn
      simp -implicitDefEqProofs [lcTurn, wipeE, Tz.slots, bindT, DL.get, h.res, hn, c])
  have he := filt_empty (xs := ah) (ps := ps)
  have hq := eq_nilI (ah.filter fun j => !decide (j ∈ ps))
  rw [hal] at he
  rw [he] at hq
  refine ⟨some (.lst (ah.map D.int)), ?_⟩
  generalize (ah.filter fun j => !decide (j ∈ ps)).map D.int = fl at *
  generalize ah.map D.int = ahD at *
  generalize blk m ps p = b at *
  generalize (rgI (p - m) p).map D.int = rg at *
  have hs := h.res
  cases b with
  | true => simp -implicitDefEqProofs [bindT, lb2, evS, DL.get, setE, e0, hlen, hl1, hlen2, hl2, hq]
  | false => simp -implicitDefEqProofs [bindT, lb2, evS, DL.get, setE, e0, hlen, hl1, hlen2, hl2, hq]
theorem loop2 : ∀ (qs : List Int) (x w3 : Option D), (∀ p ∈ qs, 0 ≤ p ∧ p ≤ 1000) → ∃ y w, forGo (.nm 2) (evS C K lb2) (qs.map D.int) [some (.int m), some t, x, w3, none] = M.pure (match qs.find? (blk m ps) with
    | some p => .rt (.int p)
    | none => .nx [some (.int m), some t, y, w, none])
  | [], x, w3, _ => ⟨x, w3, rfl⟩
  | p :: qs, x, w3, hq => by
    obtain ⟨w, e⟩ := turn2 (C := C) (K := K) h hm (hq p List.mem_cons_self) x w3
    obtain ⟨y, w', ih⟩ := loop2 qs (some (.int p)) w fun q hq' => hq q (List.mem_cons_of_mem _ hq')
    refine ⟨y, w', ?_⟩
    rw [List.map_cons]
    show M.bind (M.opt (bindT (.nm 2) (.int p) _)) (fun ρ' => M.bind (evS C K lb2 ρ') _) = _
    rw [← bb, e, List.find?_cons]
    cases c : blk m ps p with
    | true => rfl
    | false =>
      rw [if_neg Bool.false_ne_true, pb]
      exact ih
end
theorem bad2 (n : Nat) {t : D} {ps : List Int} (h : PD t ps) {m : Int} (hm : 0 ≤ m ∧ m ≤ 1000) (hp : ∀ p ∈ ps, 0 ≤ p ∧ p ≤ 1000) : F (n + 1) 2 [.int m, t] = M.pure (optD (badN m ps)) := by
  unfold F
  rw [call_at (d := d2) rfl rfl _ rfl, run_eq, eb2]
  have hN : d2.N.length = 5 := rfl
  rw [hN]
  obtain ⟨y, w, e⟩ := loop2 (C := tabF (kcOf ks) tx n) (K := kcOf ks) h hm ps none none hp
  unfold badN
  generalize ps.find? (blk m ps) = o at *
  have hs := h.still
  have hr := h.res
  generalize lb2 = B at *
  cases o with
  | none => simp -implicitDefEqProofs [evS, DL.get, hr, hs, e, optD]
  | some p => simp -implicitDefEqProofs [evS, DL.get, hr, hs, e, optD]
/-! ### judges -/
theorem all_true {α : Type} (xs : List α) : bfop .all [.lst (xs.map fun _ => D.bl true)] = M.pure (.bl true) := by
  have e : blsOf (xs.map fun _ => D.bl true) = some (xs.map fun _ => true) := by
    induction xs with
    | nil => rfl
    | cons b bs ih =>
      show (match blsOf (bs.map fun _ => D.bl true) with
        | some is => some (true :: is)
        | none => none) = _
      rw [ih]
      rfl
  show M.bind (M.opt (blsOf (xs.map fun _ => D.bl true))) (fun is => M.pure (D.bl (is.all id))) = _
  rw [e]
  show M.pure (D.bl ((xs.map fun _ => true).all id)) = _
  rw [List.all_map]
  congr 2
  exact List.all_eq_true.mpr fun _ _ => rfl
theorem fm_true {α : Type} (x : D) : ∀ xs : List α, xs.filterMap (fun _ => some x) = xs.map fun _ => x
  | [] => rfl
  | a :: xs => by rw [List.filterMap_cons, fm_true x xs]; rfl
theorem zip_asc : ∀ {ps : List Int}, ps.Pairwise (· < ·) → ∀ x ∈ ps.zip ps.tail, x.1 < x.2
  | [], _, x, hx => by simp at hx
  | [p], _, x, hx => by simp at hx
  | p :: q :: ps, h, x, hx => by
    simp only [List.tail_cons, List.zip_cons_cons, List.mem_cons] at hx
    rcases hx with rfl | hx
    · exact (List.pairwise_cons.mp h).1 q List.mem_cons_self
    · exact zip_asc (List.pairwise_cons.mp h).2 x hx
theorem zipD_int : ∀ (as bs : List Int), zipD (as.map D.int) (bs.map D.int) = (as.zip bs).map fun p => D.tup [.int p.1, .int p.2]
  | [], bs => by simp [zipD]
  | a :: as, [] => by simp [zipD]
  | a :: as, b :: bs => by
    have := zipD_int as bs
    unfold zipD at *
    simp only [List.map_cons, List.zip_cons_cons, this]
theorem cut1 (xs : List D) : cut xs (some 1) none = xs.tail := by
  unfold cut
  have e1 : HT.sIx xs.length 0 (some 1) = min 1 xs.length := by
    show (if (1 : Int) < 0 then ((1 : Int) + (xs.length : Int)).toNat else min (1 : Int).toNat xs.length) = _
    rw [if_neg (by omega)]
    rfl
  have e2 : HT.sIx xs.length xs.length none = xs.length := rfl
  rw [e1, e2]
  cases xs with
  | nil => rfl
  | cons x xs =>
    rw [show min 1 (x :: xs).length = 1 from by simp]
    simp
theorem ascending (n : Nat) {ps : List Int} (h : ps.Pairwise (· < ·)) (hl : ps.length ≤ 1000) : F (n + 1) 8 [tI ps] = M.pure (.bl true) := by
  unfold F tI
  rw [call_at (d := d8) rfl rfl _ rfl, run_eq]
  have c1 : slcop (some 1) none (.tup (ps.map D.int)) = M.pure (.tup (ps.tail.map D.int)) := by
    show M.pure (D.tup (cut (ps.map D.int) (some 1) none)) = _
    rw [cut1, List.map_tail]
  have hz : zipop (.tup (ps.map D.int)) (.tup (ps.tail.map D.int)) = M.pure (zipD (ps.map D.int) (ps.tail.map D.int)) := rfl
  have hlen : lenOk (zipD (ps.map D.int) (ps.tail.map D.int)) = M.pure (zipD (ps.map D.int) (ps.tail.map D.int)) := lenOk_le (by
    unfold zipD
    simp
    omega)
  have hlc := lcGo_map (f := lcTurn (.tp (.cons (.nm 1) (.cons (.nm 2) .nil))) (ev (tabF (kcOf ks) tx n) (kcOf ks) .nil).t (ev (tabF (kcOf ks) tx n) (kcOf ks) (.cmp .lt (.var 1) (.var 2))).e [some (.tup (ps.map D.int)), none, none]) (g := fun _ => some (.bl true)) (zipD (ps.map D.int) (ps.tail.map D.int)) (fun d hd => by
    rw [zipD_int] at hd
    obtain ⟨x, hx, rfl⟩ := List.mem_map.mp hd
    have hlt := zip_asc h x hx
    generalize ps.map D.int = pD
    simp -implicitDefEqProofs [lcTurn, wipeE, Tz.slots, bindT, bindTs, DL.get, hlt])
  rw [fm_true] at hlc
  have al := all_true (zipD (ps.map D.int) (ps.tail.map D.int))
  generalize zipD (ps.map D.int) (ps.tail.map D.int) = z at *
  generalize (z.map fun _ => D.bl true) = zb at *
  generalize ps.tail.map D.int = tD at *
  generalize ps.map D.int = pD at *
  simp -implicitDefEqProofs [d8, b8, evS, DL.get, c1, hz, hlen, hlc, al]
structure Pl (N : Int) (ps : List Int) : Prop where
  asc : ps.Pairwise (· < ·)
  bd : ∀ p ∈ ps, 0 ≤ p ∧ p < N
theorem asc_len : ∀ (ps : List Int) (N : Int), ps.Pairwise (· < ·) → (∀ p ∈ ps, 0 ≤ p ∧ p < N) → (ps.length : Int) ≤ N ∨ ps = []
  | [], N, _, _ => .inr rfl
  | p :: ps, N, h, hb => by
    left
    have h1 := (List.pairwise_cons.mp h)
    have key : ∀ (qs : List Int) (lo : Int), qs.Pairwise (· < ·) → (∀ q ∈ qs, lo ≤ q ∧ q < N) → lo ≤ N → (qs.length : Int) ≤ N - lo := by
      intro qs
      induction qs with
      | nil => intro lo _ _ hl; simp; omega
      | cons q qs ih =>
        intro lo h2 h3 hl
        have h4 := List.pairwise_cons.mp h2
        have h5 := h3 q List.mem_cons_self
        have := ih (q + 1) h4.2 (fun r hr => ⟨h4.1 r hr, (h3 r (List.mem_cons_of_mem _ hr)).2⟩) (by omega)
        rw [List.length_cons]
        omega
    have := key (p :: ps) 0 h hb (by have := hb p List.mem_cons_self; omega)
    omega
theorem Pl.len {N : Int} {ps : List Int} (h : Pl N ps) (hN : N ≤ 30) : ps.length ≤ 30 := by
  rcases asc_len ps N h.asc h.bd with c | c
  · omega
  · rw [c]; decide
theorem set_below (n : Nat) {N : Int} {ps : List Int} (h : Pl N ps) (hN : N ≤ 30) : F (n + 2) 7 [tI ps, .int N] = M.pure (.bl true) := by
  have a1 := ascending n h.asc (by have := h.len hN; omega)
  unfold F tI at *
  rw [call_at (d := d7) rfl rfl _ rfl, run_eq]
  have i1 : bfop .isin [.tup (ps.map D.int), .ty "tuple"] = M.pure (.bl true) := rfl
  have hlen : lenOk (ps.map D.int) = M.pure (ps.map D.int) := lenOk_le (by rw [List.length_map]; have := h.len hN; omega)
  have hlc := lcGo_map (f := lcTurn (.nm 2) (ev (tabF (kcOf ks) tx (n + 1)) (kcOf ks) .nil).t (ev (tabF (kcOf ks) tx (n + 1)) (kcOf ks) (.call 6 (.cons (.var 2) (.cons (.int 0) (.cons (.bin .sub (.var 1) (.int 1)) .nil))))).e [some (.tup (ps.map D.int)), some (.int N), none]) (g := fun _ => some (.bl true)) (ps.map D.int) (fun d hd => by
    obtain ⟨x, hx, rfl⟩ := List.mem_map.mp hd
    have hb := h.bd x hx
    have e := is_whole n (.int x) 0 (N - 1) rfl
    rw [show whB 0 (N - 1) (.int x) = true from decide_eq_true (by omega)] at e
    unfold F at e
    generalize ps.map D.int = pD
    simp -implicitDefEqProofs [lcTurn, wipeE, Tz.slots, bindT, bindTs, DL.get, e])
  rw [fm_true] at hlc
  have al := all_true (ps.map D.int)
  generalize ((ps.map D.int).map fun _ => D.bl true) = zb at *
  generalize ps.map D.int = pD at *
  simp -implicitDefEqProofs [d7, b7, evS, DL.get, i1, hlen, hlc, al, a1]
theorem need_set (n : Nat) {N m : Int} {ps : List Int} (h : Pl N ps) (hN : 1 ≤ N ∧ N ≤ 30) (hm : 0 ≤ m ∧ m ≤ 30) : F (n + 3) 4 [.int N, .int m, tI ps] = M.pure .non := by
  have e1 := need_whole n (.int N) 1 30 rfl
  have e2 := need_whole n (.int m) 0 30 rfl
  rw [show whB 1 30 (.int N) = true from decide_eq_true hN, if_pos rfl] at e1
  rw [show whB 0 30 (.int m) = true from decide_eq_true hm, if_pos rfl] at e2
  have e3 := set_below n h hN.2
  unfold F at *
  rw [call_at (d := d4) rfl rfl _ rfl, run_eq]
  have rs : res (tI ps) = M.pure (tI ps) := rfl
  generalize tI ps = T at *
  simp -implicitDefEqProofs [d4, b4, evS, DL.get, k0, rs, e1, e2, e3]
theorem pd_t (ps : List Int) : PD (tI ps) ps := .inl rfl
theorem Pl.b1000 {N : Int} {ps : List Int} (h : Pl N ps) (hN : N ≤ 30) : ∀ p ∈ ps, 0 ≤ p ∧ p ≤ 1000 := fun p hp => by have := h.bd p hp; omega
theorem can_be_sure (n : Nat) {N m : Int} {ps : List Int} (h : Pl N ps) (hN : 1 ≤ N ∧ N ≤ 30) (hm : 0 ≤ m ∧ m ≤ 30) : F (n + 4) 3 [.int N, .int m, tI ps] = M.pure (.bl (optD (badN m ps)).isNon) := by
  have e1 := need_set n h hN hm
  have e2 := bad9 (n + 2) (pd_t ps) (m := m) (by omega) (h.b1000 hN.2)
  unfold F at *
  rw [call_at (d := d3) rfl rfl _ rfl, run_eq]
  have rs : res (tI ps) = M.pure (tI ps) := rfl
  generalize tI ps = T at *
  generalize optD (badN m ps) = o at *
  simp -implicitDefEqProofs [d3, b3, evS, DL.get, rs, e1, e2]
theorem unsure (n : Nat) {N m : Int} {ps : List Int} (h : Pl N ps) (hN : 1 ≤ N ∧ N ≤ 30) (hm : 0 ≤ m ∧ m ≤ 30) : F (n + 4) 10 [.int N, .int m, tI ps] = M.pure (optD (badN m ps)) := by
  have e1 := need_set n h hN hm
  have e2 := bad9 (n + 2) (pd_t ps) (m := m) (by omega) (h.b1000 hN.2)
  unfold F at *
  rw [call_at (d := d10) rfl rfl _ rfl, run_eq]
  have rs : res (tI ps) = M.pure (tI ps) := rfl
  generalize tI ps = T at *
  generalize optD (badN m ps) = o at *
  simp -implicitDefEqProofs [d10, b10, evS, DL.get, rs, e1, e2]
theorem need_sure (n : Nat) {k m : Int} {ps : List Int} (h : Pl 30 ps) (hk : 2 ≤ k ∧ k ≤ 10) (hm : 0 ≤ m ∧ m ≤ 30) (hb : badN m ps = none) : F (n + 3) 14 [.int k, .int m, tI ps] = M.pure .non := by
  have e1 := need_whole n (.int k) 2 10 rfl
  have e2 := need_whole n (.int m) 0 30 rfl
  rw [show whB 2 10 (.int k) = true from decide_eq_true hk, if_pos rfl] at e1
  rw [show whB 0 30 (.int m) = true from decide_eq_true hm, if_pos rfl] at e2
  have e3 := set_below n h (by decide)
  have e4 := bad9 (n + 1) (pd_t ps) (m := m) (by omega) (h.b1000 (by decide))
  rw [hb] at e4
  unfold F at *
  rw [call_at (d := d14) rfl rfl _ rfl, run_eq]
  have rs : res (tI ps) = M.pure (tI ps) := rfl
  have e4 : tabF (kcOf ks) tx (n + 2) 9 [.int m, tI ps] = M.pure .non := e4
  have i0 : D.non.isNon = true := rfl
  generalize tI ps = T at *
  simp -implicitDefEqProofs [d14, b14, evS, DL.get, k0, k1, rs, e1, e2, e3, e4, i0]
theorem colours (n : Nat) {k : Int} {hs : List Int} (hl : hs.length ≤ 1000) (h : ∀ x ∈ hs, 0 ≤ x ∧ x < k) : F (n + 2) 16 [.int k, tI hs] = M.pure (.bl true) := by
  unfold F tI at *
  rw [call_at (d := d16) rfl rfl _ rfl, run_eq]
  have i1 : bfop .isin [.tup (hs.map D.int), .ty "tuple"] = M.pure (.bl true) := rfl
  have hlen : lenOk (hs.map D.int) = M.pure (hs.map D.int) := lenOk_le (by rw [List.length_map]; omega)
  have hlc := lcGo_map (f := lcTurn (.nm 2) (ev (tabF (kcOf ks) tx (n + 1)) (kcOf ks) .nil).t (ev (tabF (kcOf ks) tx (n + 1)) (kcOf ks) (.call 6 (.cons (.var 2) (.cons (.int 0) (.cons (.bin .sub (.var 0) (.int 1)) .nil))))).e [some (.int k), some (.tup (hs.map D.int)), none]) (g := fun _ => some (.bl true)) (hs.map D.int) (fun d hd => by
    obtain ⟨x, hx, rfl⟩ := List.mem_map.mp hd
    have hb := h x hx
    have e := is_whole n (.int x) 0 (k - 1) rfl
    rw [show whB 0 (k - 1) (.int x) = true from decide_eq_true (by omega)] at e
    unfold F at e
    generalize hs.map D.int = pD
    simp -implicitDefEqProofs [lcTurn, wipeE, Tz.slots, bindT, bindTs, DL.get, e])
  rw [fm_true] at hlc
  have al := all_true (hs.map D.int)
  generalize ((hs.map D.int).map fun _ => D.bl true) = zb at *
  generalize hs.map D.int = pD at *
  simp -implicitDefEqProofs [d16, b16, evS, DL.get, i1, hlen, hlc, al]
end Row
namespace Row
open PySem DL
def runN (ps : List Int) : Int → List Int → Int
  | _, [] => 0
  | f, h :: hs => if f ∈ ps then h + runN ps (f + 1) hs else 0
def enI (i : Nat) (hs : List Int) : List D := ((hs.map D.int).zipIdx i).map fun p => D.tup [.int p.2, p.1]
theorem enI_cons (i : Nat) (h : Int) (hs : List Int) : enI i (h :: hs) = .tup [.int i, .int h] :: enI (i + 1) hs := by
  unfold enI
  rw [List.map_cons, List.zipIdx_cons, List.map_cons]
theorem enI_nil (i : Nat) : enI i [] = [] := rfl
theorem enumD_eq (hs : List Int) : enumD (hs.map D.int) = enI 0 hs := rfl
theorem cut_nat {xs : List D} (a b : Nat) : cut xs (some (a : Int)) (some (b : Int)) = (xs.drop a).take (b - a) := by
  unfold cut
  rw [HT.sIx_nat, HT.sIx_nat]
  by_cases ha : a ≤ xs.length
  · rw [Nat.min_eq_left ha]
    by_cases hb : b ≤ xs.length
    · rw [Nat.min_eq_left hb]
    · rw [Nat.min_eq_right (by omega), List.take_of_length_le (by simp), List.take_of_length_le (by simp; omega)]
  · rw [Nat.min_eq_right (show xs.length ≤ a by omega), List.drop_of_length_le (Nat.le_refl _), List.drop_of_length_le (show xs.length ≤ a by omega)]
    simp
theorem cut_from {xs : List D} (a : Nat) : cut xs (some (a : Int)) none = xs.drop a := by
  unfold cut
  rw [HT.sIx_nat, HT.sIx_none]
  by_cases ha : a ≤ xs.length
  · rw [Nat.min_eq_left ha, List.take_of_length_le (by simp)]
  · rw [Nat.min_eq_right (by omega), List.drop_of_length_le (Nat.le_refl _), List.drop_of_length_le (by omega)]
    simp
theorem cut_to {xs : List D} (b : Nat) : cut xs none (some (b : Int)) = xs.take b := by
  unfold cut
  rw [HT.sIx_nat, HT.sIx_none, List.drop_zero, Nat.sub_zero]
  by_cases hb : b ≤ xs.length
  · rw [Nat.min_eq_left hb]
  · rw [Nat.min_eq_right (by omega), List.take_of_length_le (Nat.le_refl _), List.take_of_length_le (by omega)]
/-! ### the run -/
def lb18 : Sz := (.cons (.ite (.cmp .nmem (.bin .add (.var 1) (.var 4)) (.var 0)) (.cons (.ret (.var 3)) .nil) .nil) (.cons (.set 3 (.bin .add (.var 3) (.var 5))) .nil))
theorem eb18 : d18.body = (.cons (.set 3 (.int 0)) (.cons (.for (.tp (.cons (.nm 4) (.cons (.nm 5) .nil))) (.enum (.var 2)) lb18) (.cons (.ret (.var 3)) .nil))) := rfl
theorem loop18 {C : Nat → List D → M D} {K : Nat → D} {t : D} {ps : List Int} (h : PD t ps) (f : Int) (H : Option D) : ∀ (hs : List Int) (i : Nat) (acc : Int) (x y : Option D), ∃ o, forGo (.tp (.cons (.nm 4) (.cons (.nm 5) .nil))) (evS C K lb18) (enI i hs) [some t, some (.int f), H, some (.int acc), x, y] = M.pure o ∧ (o = .rt (.int (acc + runN ps (f + i) hs)) ∨ ∃ x' y', o = .nx [some t, some (.int f), H, some (.int (acc + runN ps (f + i) hs)), x', y'])
  | [], i, acc, x, y => ⟨_, rfl, .inr ⟨x, y, by simp [runN]⟩⟩
  | hh :: hs, i, acc, x, y => by
    have hn := nmem_ h (f + i)
    have key : M.bind (M.opt (bindT (.tp (.cons (.nm 4) (.cons (.nm 5) .nil))) (.tup [.int i, .int hh]) [some t, some (.int f), H, some (.int acc), x, y])) (evS C K lb18) = if f + i ∈ ps then M.pure (.nx [some t, some (.int f), H, some (.int (acc + hh)), some (.int i), some (.int hh)]) else M.pure (.rt (.int acc)) := by
      by_cases c : f + i ∈ ps
      · rw [decide_eq_true c] at hn
        simp -implicitDefEqProofs [bindT, bindTs, lb18, evS, DL.get, setE, h.res, hn, c]
      · rw [decide_eq_false c] at hn
        simp -implicitDefEqProofs [bindT, bindTs, lb18, evS, DL.get, setE, h.res, hn, c]
    rw [enI_cons]
    have hunf : forGo (.tp (.cons (.nm 4) (.cons (.nm 5) .nil))) (evS C K lb18) (.tup [.int i, .int hh] :: enI (i + 1) hs) [some t, some (.int f), H, some (.int acc), x, y] = M.bind (M.bind (M.opt (bindT (.tp (.cons (.nm 4) (.cons (.nm 5) .nil))) (.tup [.int i, .int hh]) [some t, some (.int f), H, some (.int acc), x, y])) (evS C K lb18)) fun o => match o with
      | .nx ρ1 => forGo (.tp (.cons (.nm 4) (.cons (.nm 5) .nil))) (evS C K lb18) (enI (i + 1) hs) ρ1
      | .ct ρ1 => forGo (.tp (.cons (.nm 4) (.cons (.nm 5) .nil))) (evS C K lb18) (enI (i + 1) hs) ρ1
      | .bk ρ1 => M.pure (.nx ρ1)
      | .rt d => M.pure (.rt d) := by
      rw [bb]
      rfl
    rw [hunf, key]
    by_cases c : f + i ∈ ps
    · rw [if_pos c, pb]
      obtain ⟨o, e1, e2⟩ := loop18 h f H hs (i + 1) (acc + hh) (some (.int i)) (some (.int hh))
      have ea : acc + hh + runN ps (f + ((i + 1 : Nat) : Int)) hs = acc + runN ps (f + i) (hh :: hs) := by
        rw [runN, if_pos c, show f + ((i + 1 : Nat) : Int) = f + i + 1 from by omega]
        omega
      rw [ea] at e2
      exact ⟨o, e1, e2⟩
    · rw [if_neg c, pb]
      refine ⟨_, rfl, .inl ?_⟩
      rw [runN, if_neg c, Int.add_zero]
theorem run_sum (n : Nat) (ps : List Int) (f : Int) (hs : List Int) (hl : hs.length ≤ 1000) : F (n + 1) 18 [tI ps, .int f, tI hs] = M.pure (.int (runN ps f hs)) := by
  unfold F
  rw [call_at (d := d18) rfl rfl _ rfl, run_eq, eb18]
  have hN : d18.N.length = 6 := rfl
  rw [hN]
  obtain ⟨o, e, ho⟩ := loop18 (C := tabF (kcOf ks) tx n) (K := kcOf ks) (pd_t ps) f (some (tI hs)) hs 0 0 none none
  rw [show f + ((0 : Nat) : Int) = f from by omega, Int.zero_add] at ho
  have he : enumop (tI hs) = M.pure (enI 0 hs) := rfl
  have r1 : res (tI hs) = M.pure (tI hs) := rfl
  generalize lb18 = B at *
  generalize tI hs = H at *
  generalize enI 0 hs = en at *
  generalize tI ps = T at *
  generalize runN ps f hs = R at *
  rcases ho with rfl | ⟨x, y, rfl⟩
  · simp -implicitDefEqProofs [evS, DL.get, setE, r1, he, e]
  · simp -implicitDefEqProofs [evS, DL.get, setE, r1, he, e]
/-! ### the last one outside -/
def lastZ (ps : List Int) : Nat → Option Nat
  | 0 => none
  | a + 1 => if (a : Int) ∈ ps then lastZ ps a else some a
def outs (ps : List Int) (a : Nat) : List Int := ((List.range a).map fun (i : Nat) => (i : Int)).filter fun j => !decide (j ∈ ps)
theorem outs_succ (ps : List Int) (a : Nat) : outs ps (a + 1) = if (a : Int) ∈ ps then outs ps a else outs ps a ++ [(a : Int)] := by
  unfold outs
  rw [List.range_succ, List.map_append, List.filter_append]
  by_cases c : (a : Int) ∈ ps <;> simp [c]
theorem outs_last {ps : List Int} : ∀ {a z : Nat}, lastZ ps a = some z → ∃ L, outs ps a = L ++ [(z : Int)] ∧ (∀ x ∈ L, x < (z : Int)) ∧ z < a ∧ (z : Int) ∉ ps ∧ ∀ j : Nat, z < j → j < a → (j : Int) ∈ ps
  | 0, z, h => by cases h
  | a + 1, z, h => by
    rw [outs_succ]
    unfold lastZ at h
    by_cases c : (a : Int) ∈ ps
    · rw [if_pos c] at h ⊢
      obtain ⟨L, h1, h2, h3, h4, h5⟩ := outs_last h
      refine ⟨L, h1, h2, by omega, h4, fun j hj1 hj2 => ?_⟩
      by_cases e : j = a
      · rw [e]; exact c
      · exact h5 j hj1 (by omega)
    · rw [if_neg c] at h ⊢
      cases h
      refine ⟨_, rfl, fun x hx => ?_, by omega, c, fun j h1 h2 => by omega⟩
      unfold outs at hx
      obtain ⟨h1, _⟩ := List.mem_filter.mp hx
      obtain ⟨i, hi, rfl⟩ := List.mem_map.mp h1
      have := List.mem_range.mp hi
      omega
def callN (k : Int) (ps : List Int) (heard hs : List Int) : Int :=
  if (heard.length : Int) ∈ ps then
    match lastZ ps heard.length with
    | some z => (heard.getD z 0 - (heard.drop (z + 1)).sum - runN ps (heard.length + 1) hs).fmod k
    | none => 0
  else (runN ps (heard.length + 1) hs).fmod k
theorem atI_int {xs : List Int} {z : Nat} (h : z < xs.length) : L2.atI (xs.map D.int) ((z : Nat) : Int) = some (.int (xs.getD z 0)) := by
  refine L2.atI_nat ?_
  rw [List.getElem?_map, List.getElem?_eq_getElem h, List.getD_eq_getElem?_getD, List.getElem?_eq_getElem h]
  rfl
theorem modk {k : Int} (hk : 2 ≤ k) (x : Int) : binop .mod (.int x) (.int k) = M.pure (.int (x.fmod k)) := bin_mod (by omega)
def lc17 : Ez := (.lc (.nm 7) (.range1 (.var 4)) (.cmp .nmem (.var 7) (.var 1)) (.var 7))
theorem eb17 : d17.body = (.cons (.set 4 (.bf .len (.cons (.var 2) .nil))) (.cons (.set 5 (.call 18 (.cons (.var 1) (.cons (.bin .add (.var 4) (.int 1)) (.cons (.var 3) .nil))))) (.cons (.ite (.cmp .nmem (.var 4) (.var 1)) (.cons (.ret (.bin .mod (.var 5) (.var 0))) .nil) .nil) (.cons (.set 6 (.idx lc17 (.neg (.int 1)))) (.cons (.ret (.bin .mod (.bin .sub (.bin .sub (.idx (.var 2) (.var 6)) (.bf .sum (.cons (.slc (.var 2) (.bin .add (.var 6) (.int 1)) .nil) .nil))) (.var 5)) (.var 0))) .nil))))) := rfl
theorem rng1N {a : Nat} (h : a ≤ 1000) : rng1 (.int (a : Nat)) = M.pure (((List.range a).map fun (i : Nat) => (i : Int)).map D.int) := by
  rw [rng1_ok (by omega), List.map_map]
  rfl
theorem call_of (n : Nat) {k : Int} (hk : 2 ≤ k) (ps heard hs : List Int) (hl : heard.length ≤ 1000 ∧ hs.length ≤ 1000) (hz : (heard.length : Int) ∈ ps → ∃ z, lastZ ps heard.length = some z) : F (n + 2) 17 [.int k, tI ps, tI heard, tI hs] = M.pure (.int (callN k ps heard hs)) := by
  unfold F
  rw [call_at (d := d17) rfl rfl _ rfl, run_eq, eb17]
  have hN : d17.N.length = 8 := rfl
  rw [hN]
  have e1 := run_sum n ps (heard.length + 1) hs hl.2
  have hlen : seqA (tI heard) = M.pure (heard.map D.int) := rfl
  have hll : (heard.map D.int).length = heard.length := List.length_map ..
  have hn := nmem_ (pd_t ps) (heard.length : Int)
  have rt : res (tI ps) = M.pure (tI ps) := rfl
  have rh : res (tI hs) = M.pure (tI hs) := rfl
  have rd : res (tI heard) = M.pure (tI heard) := rfl
  unfold callN
  unfold F at e1
  by_cases c : (heard.length : Int) ∈ ps
  · obtain ⟨z, e2⟩ := hz c
    obtain ⟨L, h1, h2, h3, h4, h5⟩ := outs_last e2
    rw [decide_eq_true c] at hn
    rw [if_pos c, e2]
    dsimp only
    have er := rng1N (a := heard.length) hl.1
    have el : lenOk (((List.range heard.length).map fun (i : Nat) => (i : Int)).map D.int) = M.pure (((List.range heard.length).map fun (i : Nat) => (i : Int)).map D.int) := lenOk_le (by simp; omega)
    have hlc := lcFil (tg := .nm 7) (C := tabF (kcOf ks) tx (n + 1)) (K := kcOf ks) (c := .cmp .nmem (.var 7) (.var 1)) (e := .var 7) (ρ := [some (.int k), some (tI ps), some (tI heard), some (tI hs), some (.int (heard.length : Nat)), some (.int (runN ps (heard.length + 1) hs)), none, none]) (P := fun j => !decide (j ∈ ps)) ((List.range heard.length).map fun (i : Nat) => (i : Int)) (fun x _ => by
      have hn := nmem_ (pd_t ps) x
      generalize tI ps = T at *
      generalize tI heard = HD at *
      generalize tI hs = HS at *
      by_cases c : x ∈ ps
      · rw [decide_eq_true c] at hn
        simp -implicitDefEqProofs [lcTurn, wipeE, Tz.slots, bindT, DL.get, rt, hn, c]
      · rw [decide_eq_false c] at hn
        simp -implicitDefEqProofs [lcTurn, wipeE, Tz.slots, bindT, DL.get, rt, hn, c])
    have ho : ((List.range heard.length).map fun (i : Nat) => (i : Int)).filter (fun j => !decide (j ∈ ps)) = L ++ [(z : Int)] := h1
    rw [ho, List.map_append] at hlc
    have e3 : M.opt (L2.atI (L.map D.int ++ [D.int (z : Int)]) (-1)) = M.pure (.int (z : Int)) := by rw [atI_last]; rfl
    have e4 : M.opt (L2.atI (heard.map D.int) (z : Int)) = M.pure (.int (heard.getD z 0)) := by rw [atI_int h3]; rfl
    have e5 : slcop (some ((z : Int) + 1)) none (tI heard) = M.pure (tI (heard.drop (z + 1))) := by
      show M.pure (D.tup (cut (heard.map D.int) (some (((z + 1 : Nat) : Int))) none)) = _
      rw [cut_from, ← List.map_drop]
      rfl
    have e6 : bfop .sum [tI (heard.drop (z + 1))] = M.pure (.int (heard.drop (z + 1)).sum) := by
      show M.bind (M.opt (intsOf ((heard.drop (z + 1)).map D.int))) (fun is => M.pure (D.int is.sum)) = _
      rw [intsOf_map]
      rfl
    have mk := modk hk (heard.getD z 0 - (heard.drop (z + 1)).sum - runN ps (heard.length + 1) hs)
    have n1 : negop (.int 1) = M.pure (.int (-1)) := rfl
    unfold lc17
    have hm1 : ([(z : Int)].map D.int) = [D.int (z : Int)] := rfl
    rw [hm1] at hlc
    generalize L.map D.int ++ [D.int (z : Int)] = LL at *
    generalize ((List.range heard.length).map fun (i : Nat) => (i : Int)).map D.int = rg at *
    generalize tI (heard.drop (z + 1)) = HDr at *
    generalize heard.map D.int = hD at *
    generalize (heard.drop (z + 1)).sum = S at *
    generalize runN ps (heard.length + 1) hs = R at *
    generalize heard.getD z 0 = G at *
    generalize tI ps = T at *
    generalize tI heard = HD at *
    generalize tI hs = HS at *
    simp -implicitDefEqProofs [-bf_sum, evS, DL.get, setE, rt, rh, rd, hlen, hll, e1, hn, er, el, hlc, n1, e3, e4, e5, e6, mk]
  · rw [decide_eq_false c] at hn
    rw [if_neg c]
    have mk := modk hk (runN ps (heard.length + 1) hs)
    generalize runN ps (heard.length + 1) hs = R at *
    generalize lc17 = LC at *
    generalize heard.map D.int = hD at *
    generalize tI ps = T at *
    generalize tI heard = HD at *
    generalize tI hs = HS at *
    simp -implicitDefEqProofs [evS, DL.get, setE, rt, rh, rd, hlen, hll, e1, hn, mk]
end Row
namespace Row
open PySem DL
theorem noRefs_int {k : Nat} (is : List Int) : D.noRefs k (is.map D.int) = true := by
  induction is with
  | nil => rfl
  | cons i is ih => rw [List.map_cons, D.noRefs, ih]; rfl
def allP (ps : List Int) (f : Int) (i : Nat) : Bool := (rgI f (f + i + 1)).all fun j => decide (j ∈ ps)
def runL (ps : List Int) (f : Int) : Nat → List Int → List Int
  | _, [] => []
  | i, h :: hs => (if allP ps f i = true then [h] else []) ++ runL ps f (i + 1) hs
theorem allP_iff {ps : List Int} {f : Int} {i : Nat} : allP ps f i = true ↔ ∀ j, f ≤ j → j ≤ f + i → j ∈ ps := by
  unfold allP
  rw [List.all_eq_true]
  constructor
  · intro h j h1 h2
    exact of_decide_eq_true (h j (mem_rgI.mpr (by omega)))
  · intro h j hj
    have := mem_rgI.mp hj
    exact decide_eq_true (h j this.1 (by omega))
theorem runL_no {ps : List Int} {f : Int} : ∀ (hs : List Int) (i : Nat), (∃ j, f ≤ j ∧ j < f + i ∧ j ∉ ps) → runL ps f i hs = []
  | [], i, _ => rfl
  | h :: hs, i, hj => by
    obtain ⟨j, h1, h2, h3⟩ := hj
    have c : allP ps f i = false := by
      cases c : allP ps f i with
      | false => rfl
      | true => exact absurd (allP_iff.mp c j h1 (by omega)) h3
    rw [runL, c, if_neg Bool.false_ne_true, runL_no hs (i + 1) ⟨j, h1, by omega, h3⟩]
    rfl
theorem runL_sum {ps : List Int} {f : Int} : ∀ (hs : List Int) (i : Nat), (∀ j, f ≤ j → j < f + i → j ∈ ps) → (runL ps f i hs).sum = runN ps (f + i) hs
  | [], i, _ => rfl
  | h :: hs, i, hj => by
    rw [runL, runN]
    by_cases c : f + i ∈ ps
    · have ca : allP ps f i = true := allP_iff.mpr fun j h1 h2 => by
        by_cases e : j = f + i
        · rw [e]; exact c
        · exact hj j h1 (by omega)
      have ih := runL_sum hs (i + 1) fun j h1 h2 => by
        by_cases e : j = f + i
        · rw [e]; exact c
        · exact hj j h1 (by omega)
      rw [ca, if_pos rfl, if_pos c, List.singleton_append, List.sum_cons, ih, show f + ((i + 1 : Nat) : Int) = f + i + 1 from by omega]
    · have ca : allP ps f i = false := by
        cases q : allP ps f i with
        | false => rfl
        | true => exact absurd (allP_iff.mp q (f + i) (by omega) (by omega)) c
      rw [ca, if_neg Bool.false_ne_true, if_neg c, runL_no hs (i + 1) ⟨f + i, by omega, by omega, c⟩]
      rfl
def lc25 : Ez := (.lc (.nm 9) (.range2 (.bin .add (.var 5) (.int 1)) (.bin .add (.bin .add (.var 5) (.int 2)) (.var 7))) (.cmp .nmem (.var 9) (.var 2)) (.var 9))
def lb25 : Sz := (.cons (.ite (.cmp .eq lc25 (.lst .nil)) (.cons (.app (.var 6) (.var 8)) .nil) .nil) .nil)
def lm25 : Ez := (.lc (.nm 9) (.range1 (.var 5)) (.cmp .nmem (.var 9) (.var 2)) (.var 9))
theorem eb25 : d25.body = (.cons (.par [5, 6] (.tup (.cons (.bf .len (.cons (.var 3) .nil)) (.cons (.mkl (.lst .nil)) .nil)))) (.cons (.for (.tp (.cons (.nm 7) (.cons (.nm 8) .nil))) (.enum (.slc (.var 4) .nil (.var 1))) lb25) (.cons (.ite (.cmp .nmem (.var 5) (.var 2)) (.cons (.ret (.bin .mod (.bf .int (.cons (.bf .sum (.cons (.frz 6) .nil)) .nil)) (.var 0))) .nil) .nil) (.cons (.set 10 (.bf .max1 (.cons lm25 .nil))) (.cons (.ret (.bin .mod (.bf .int (.cons (.bin .sub (.bin .sub (.idx (.var 3) (.var 10)) (.bf .sum (.cons (.slc (.var 3) (.bin .add (.var 10) (.int 1)) (.var 5)) .nil))) (.bf .sum (.cons (.frz 6) .nil))) .nil)) (.var 0))) .nil))))) := rfl
section
variable {C : Nat → List D → M D} {K : Nat → D} {ps : List Int} {μ : Mem} (w0 w1 w3 w4 w10 : Option D) {a : Nat} (ha : a ≤ 1000)
include ha
theorem cond25 {i : Nat} (hi : i ≤ 1000) (w6 w8 : Option D) : (ev C K (.cmp .eq lc25 (.lst .nil))).t [w0, w1, some (tI ps), w3, w4, some (.int (a : Nat)), w6, some (.int (i : Nat)), w8, none, w10] = M.pure (allP ps (a + 1) i) := by
  have e0 : rng2 (.int ((a : Int) + 1)) (.int ((a : Int) + 2 + i)) = M.pure ((rgI ((a : Int) + 1) ((a : Int) + 2 + i)).map D.int) := rng2_ (by omega) (by omega)
  have hlen : lenOk ((rgI ((a : Int) + 1) ((a : Int) + 2 + i)).map D.int) = M.pure ((rgI ((a : Int) + 1) ((a : Int) + 2 + i)).map D.int) := lenOk_le (by
    rw [List.length_map, len_rgI]
    omega)
  have hlc := lcFil (tg := .nm 9) (C := C) (K := K) (c := .cmp .nmem (.var 9) (.var 2)) (e := .var 9) (ρ := [w0, w1, some (tI ps), w3, w4, some (.int (a : Nat)), w6, some (.int (i : Nat)), w8, none, w10]) (P := fun j => !decide (j ∈ ps)) (rgI ((a : Int) + 1) ((a : Int) + 2 + i)) (fun x _ => by
    have hn := nmem_ (pd_t ps) x
    have rt : res (tI ps) = M.pure (tI ps) := rfl
    generalize tI ps = T at *
    by_cases c : x ∈ ps
    · rw [decide_eq_true c] at hn
      simp -implicitDefEqProofs [lcTurn, wipeE, Tz.slots, bindT, DL.get, rt, hn, c]
    · rw [decide_eq_false c] at hn
      simp -implicitDefEqProofs [lcTurn, wipeE, Tz.slots, bindT, DL.get, rt, hn, c])
  have he := filt_empty (xs := rgI ((a : Int) + 1) ((a : Int) + 2 + i)) (ps := ps)
  have hq := eq_nilI ((rgI ((a : Int) + 1) ((a : Int) + 2 + i)).filter fun j => !decide (j ∈ ps))
  rw [he] at hq
  have ea : (rgI ((a : Int) + 1) ((a : Int) + 2 + i)).all (fun j => decide (j ∈ ps)) = allP ps (a + 1) i := by
    unfold allP
    rw [show (a : Int) + 2 + i = (a : Int) + 1 + i + 1 from by omega]
  rw [ea] at hq
  generalize ((rgI ((a : Int) + 1) ((a : Int) + 2 + i)).filter fun j => !decide (j ∈ ps)).map D.int = fl at *
  generalize (rgI ((a : Int) + 1) ((a : Int) + 2 + i)).map D.int = rg at *
  generalize allP ps (a + 1) i = b at *
  generalize tI ps = T at *
  unfold lc25
  simp -implicitDefEqProofs [DL.get, e0, hlen, hlc, hq]
theorem loop25 : ∀ (hs : List Int) (i : Nat) (acc : List Int) (x y : Option D), i + hs.length ≤ 1000 → acc.length + hs.length ≤ 7000 → ∃ x' y', Rn (μ ++ [.lst (acc.map D.int)]) (forGo (.tp (.cons (.nm 7) (.cons (.nm 8) .nil))) (evS C K lb25) (enI i hs) [w0, w1, some (tI ps), w3, w4, some (.int (a : Nat)), some (.ref μ.length), x, y, none, w10])
    (.nx [w0, w1, some (tI ps), w3, w4, some (.int (a : Nat)), some (.ref μ.length), x', y', none, w10]) (μ ++ [.lst ((acc ++ runL ps (a + 1) i hs).map D.int)])
  | [], i, acc, x, y, _, _ => ⟨x, y, by
    rw [show acc ++ runL ps (a + 1) i [] = acc from List.append_nil _]
    exact Rn_pure⟩
  | h :: hs, i, acc, x, y, hi, hl => by
    rw [List.length_cons] at hi hl
    have hc := cond25 (C := C) (K := K) (ps := ps) w0 w1 w3 w4 w10 ha (i := i) (by omega) (some (.ref μ.length)) (some (.int h))
    rw [enI_cons, runL, ← List.append_assoc]
    cases c : allP ps (a + 1) i with
    | false =>
      rw [c] at hc
      rw [if_neg Bool.false_ne_true, List.append_nil]
      obtain ⟨x', y', ih⟩ := loop25 hs (i + 1) acc (some (.int (i : Nat))) (some (.int h)) (by omega) (by omega)
      refine ⟨x', y', Rn_forCons ?_ ih⟩
      unfold lb25
      generalize (Ez.cmp .eq lc25 (.lst .nil)) = CT at *
      generalize tI ps = T at *
      simp -implicitDefEqProofs [bindT, bindTs, evS, hc]
      exact Rn_pure
    | true =>
      rw [c] at hc
      rw [if_pos rfl]
      obtain ⟨x', y', ih⟩ := loop25 hs (i + 1) (acc ++ [h]) (some (.int (i : Nat))) (some (.int h)) (by omega) (by simp; omega)
      refine ⟨x', y', Rn_forCons ?_ ih⟩
      unfold lb25
      generalize (Ez.cmp .eq lc25 (.lst .nil)) = CT at *
      generalize tI ps = T at *
      have e := Rn_app (μ := μ ++ [.lst (acc.map D.int)]) (n := μ.length) (xs := acc.map D.int) (x := .int h) getM0 (by rw [List.length_map]; omega)
      rw [setM0] at e
      have em : (acc ++ [h]).map D.int = acc.map D.int ++ [.int h] := by rw [List.map_append]; rfl
      rw [em]
      generalize acc.map D.int = aD at *
      simp -implicitDefEqProofs [bindT, bindTs, evS, hc, DL.get]
      refine Rn_bind (Rn_res (o := .lst aD) getM0 (fun _ q => nomatch q)) ?_
      refine Rn_bind (Rn_seqL (xs := aD) getM0) ?_
      exact Rn_bind e Rn_pure
end
theorem law_call (n : Nat) {μ : Mem} (hcl : clo μ) {k m : Int} (hk : 2 ≤ k) (ps heard hs : List Int) (hm : (hs.length : Int) ≤ m) (hl : heard.length ≤ 500 ∧ hs.length ≤ 500) (hz : (heard.length : Int) ∈ ps → ∃ z, lastZ ps heard.length = some z) : At μ (F (n + 1) 25 [.int k, .int m, tI ps, tI heard, tI hs]) (.int (callN k ps heard hs)) := by
  unfold F
  rw [call_at (d := d25) rfl rfl _ rfl]
  have hN : d25.N.length = 11 := rfl
  obtain ⟨x', y', hloop⟩ := loop25 (C := tabF (kcOf ks) tx n) (K := kcOf ks) (ps := ps) (μ := μ) (some (.int k)) (some (.int m)) (some (tI heard)) (some (tI hs)) none (a := heard.length) (by omega) hs 0 [] none none (by omega) (by simp; omega)
  rw [List.nil_append] at hloop
  have hsum := runL_sum (ps := ps) (f := heard.length + 1) hs 0 (fun j h1 h2 => by omega)
  rw [show (heard.length : Int) + 1 + ((0 : Nat) : Int) = heard.length + 1 from by omega] at hsum
  refine At_popN (more := [.fro (.lst ((runL ps (heard.length + 1) 0 hs).map D.int))]) hcl rfl ?_
  rw [run_eq, eb25, hN]
  have ec : slcop none (some m) (tI hs) = M.pure (tI hs) := by
    show M.pure (D.tup (cut (hs.map D.int) none (some m))) = _
    rw [show m = ((m.toNat : Nat) : Int) from by omega, cut_to, List.take_of_length_le (by rw [List.length_map]; omega)]
    rfl
  have he : enumop (tI hs) = M.pure (enI 0 hs) := rfl
  have hlen : seqA (tI heard) = M.pure (heard.map D.int) := rfl
  have hll : (heard.map D.int).length = heard.length := List.length_map ..
  have hn := nmem_ (pd_t ps) (heard.length : Int)
  have rt : res (tI ps) = M.pure (tI ps) := rfl
  have rh : res (tI hs) = M.pure (tI hs) := rfl
  have rd : res (tI heard) = M.pure (tI heard) := rfl
  have iR : intsOf ((runL ps (heard.length + 1) 0 hs).map D.int) = some (runL ps (heard.length + 1) 0 hs) := intsOf_map _
  have ef : Rn (μ ++ [.lst ((runL ps (heard.length + 1) 0 hs).map D.int)]) (frz (.ref μ.length)) (.lst ((runL ps (heard.length + 1) 0 hs).map D.int)) (μ ++ [.fro (.lst ((runL ps (heard.length + 1) 0 hs).map D.int))]) := by
    have := Rn_frz (μ := μ ++ [.lst ((runL ps (heard.length + 1) 0 hs).map D.int)]) (n := μ.length) (xs := (runL ps (heard.length + 1) 0 hs).map D.int) getM0
    rw [setM0] at this
    exact this
  have es : bfop .sum [.lst ((runL ps (heard.length + 1) 0 hs).map D.int)] = M.pure (.int (runN ps (heard.length + 1) hs)) := by
    show M.bind (M.opt (intsOf ((runL ps (heard.length + 1) 0 hs).map D.int))) (fun is => M.pure (D.int is.sum)) = _
    rw [iR, ← hsum]
    rfl
  unfold callN
  by_cases c : (heard.length : Int) ∈ ps
  · obtain ⟨z, e2⟩ := hz c
    obtain ⟨L, h1, h2, h3, h4, h5⟩ := outs_last e2
    rw [decide_eq_true c] at hn
    rw [if_pos c, e2]
    dsimp only
    have er := rng1N (a := heard.length) (by omega)
    have el : lenOk (((List.range heard.length).map fun (i : Nat) => (i : Int)).map D.int) = M.pure (((List.range heard.length).map fun (i : Nat) => (i : Int)).map D.int) := lenOk_le (by simp; omega)
    have hlc := lcFil (tg := .nm 9) (C := tabF (kcOf ks) tx n) (K := kcOf ks) (c := .cmp .nmem (.var 9) (.var 2)) (e := .var 9) (ρ := [some (.int k), some (.int m), some (tI ps), some (tI heard), some (tI hs), some (.int (heard.length : Nat)), some (.ref μ.length), x', y', none, none]) (P := fun j => !decide (j ∈ ps)) ((List.range heard.length).map fun (i : Nat) => (i : Int)) (fun x _ => by
      have hn := nmem_ (pd_t ps) x
      generalize tI ps = T at *
      generalize tI heard = HD at *
      generalize tI hs = HS at *
      by_cases c : x ∈ ps
      · rw [decide_eq_true c] at hn
        simp -implicitDefEqProofs [lcTurn, wipeE, Tz.slots, bindT, DL.get, rt, hn, c]
      · rw [decide_eq_false c] at hn
        simp -implicitDefEqProofs [lcTurn, wipeE, Tz.slots, bindT, DL.get, rt, hn, c])
    have ho : ((List.range heard.length).map fun (i : Nat) => (i : Int)).filter (fun j => !decide (j ∈ ps)) = L ++ [(z : Int)] := h1
    rw [ho] at hlc
    have e3 : bfop .max1 [.lst ((L ++ [(z : Int)]).map D.int)] = M.pure (.int (z : Int)) := by
      show M.bind (M.opt (intsOf ((L ++ [(z : Int)]).map D.int))) (fun is => M.bind (M.opt is.max?) fun i => M.pure (D.int i)) = _
      rw [intsOf_map]
      have : (L ++ [(z : Int)]).max? = some (z : Int) := List.max?_eq_some_iff.mpr ⟨by simp, fun b hb => by
        rcases List.mem_append.mp hb with hb | hb
        · have := h2 b hb; omega
        · rw [List.mem_singleton.mp hb]; exact Int.le_refl _⟩
      show M.bind (M.opt (L ++ [(z : Int)]).max?) _ = _
      rw [this]
      rfl
    have e4 : M.opt (L2.atI (heard.map D.int) (z : Int)) = M.pure (.int (heard.getD z 0)) := by rw [atI_int h3]; rfl
    have e5 : slcop (some ((z : Int) + 1)) (some ((heard.length : Nat) : Int)) (tI heard) = M.pure (tI (heard.drop (z + 1))) := by
      show M.pure (D.tup (cut (heard.map D.int) (some (((z + 1 : Nat) : Int))) (some ((heard.length : Nat) : Int)))) = _
      rw [cut_nat, ← List.map_drop, List.take_of_length_le (by simp)]
      rfl
    have e6 : bfop .sum [tI (heard.drop (z + 1))] = M.pure (.int (heard.drop (z + 1)).sum) := by
      show M.bind (M.opt (intsOf ((heard.drop (z + 1)).map D.int))) (fun is => M.pure (D.int is.sum)) = _
      rw [intsOf_map]
      rfl
    have mk := modk hk (heard.getD z 0 - (heard.drop (z + 1)).sum - runN ps (heard.length + 1) hs)
    unfold lm25
    generalize (L ++ [(z : Int)]).map D.int = LL at *
    generalize ((List.range heard.length).map fun (i : Nat) => (i : Int)).map D.int = rg at *
    generalize tI (heard.drop (z + 1)) = HDr at *
    generalize heard.map D.int = hD at *
    generalize (heard.drop (z + 1)).sum = S at *
    generalize runN ps (heard.length + 1) hs = R at *
    generalize (runL ps (heard.length + 1) 0 hs).map D.int = RL at *
    generalize heard.getD z 0 = G at *
    generalize tI ps = T at *
    generalize tI heard = HD at *
    generalize tI hs = HS at *
    generalize enI 0 hs = EN at *
    generalize lb25 = B at *
    simp -implicitDefEqProofs [-bf_sum, -bf_max1, evS, DL.get, rt, rh, rd, hlen, hll]
    refine Rn_bind Rn_alloc ?_
    simp -implicitDefEqProofs [-bf_sum, -bf_max1, setPar, setAll, DL.get, rh, ec, he]
    refine Rn_bind hloop ?_
    simp -implicitDefEqProofs [-bf_sum, -bf_max1, evS, DL.get, setE, rt, rd, hn, er, el, hlc, e3, hlen, e4, e5, e6]
    refine Rn_bind ef ?_
    rw [es, pb]
    simp -implicitDefEqProofs
    rw [mk, pb]
    exact Rn_pure
  · rw [decide_eq_false c] at hn
    rw [if_neg c]
    have mk := modk hk (runN ps (heard.length + 1) hs)
    generalize runN ps (heard.length + 1) hs = R at *
    generalize (runL ps (heard.length + 1) 0 hs).map D.int = RL at *
    generalize lm25 = LC at *
    generalize heard.map D.int = hD at *
    generalize tI ps = T at *
    generalize tI heard = HD at *
    generalize tI hs = HS at *
    generalize enI 0 hs = EN at *
    generalize lb25 = B at *
    simp -implicitDefEqProofs [-bf_sum, -bf_max1, evS, DL.get, rt, rh, rd, hlen, hll]
    refine Rn_bind Rn_alloc ?_
    simp -implicitDefEqProofs [-bf_sum, -bf_max1, setPar, setAll, DL.get, rh, ec, he]
    refine Rn_bind hloop ?_
    simp -implicitDefEqProofs [-bf_sum, -bf_max1, evS, DL.get, rt, hn]
    refine Rn_bind ef ?_
    rw [es, pb]
    simp -implicitDefEqProofs
    rw [mk, pb]
    exact Rn_pure
end Row
namespace Row
open PySem DL
/-! ### who is sure, plainly -/
theorem lastZ_some {ps : List Int} : ∀ {a j : Nat}, j < a → (j : Int) ∉ ps → ∃ z, lastZ ps a = some z ∧ j ≤ z
  | 0, j, h, _ => by omega
  | a + 1, j, h, hj => by
    unfold lastZ
    by_cases c : (a : Int) ∈ ps
    · rw [if_pos c]
      have : j ≠ a := fun e => hj (by rw [e]; exact c)
      exact lastZ_some (by omega) hj
    · rw [if_neg c]
      exact ⟨a, rfl, by omega⟩
theorem blk_false {m : Int} {ps : List Int} {p : Int} (h : blk m ps p = false) : ∃ j, 0 ≤ j ∧ p - m ≤ j ∧ j < p ∧ j ∉ ps := by
  unfold blk at h
  rw [List.all_eq_false] at h
  obtain ⟨j, h1, h2⟩ := h
  have h1 := mem_rgI.mp h1
  refine ⟨j, ?_, ?_, h1.2, fun c => h2 (decide_eq_true c)⟩
  · have := h1.1
    split at this <;> omega
  · have := h1.1
    split at this <;> omega
theorem blk_true {m : Int} {ps : List Int} {p : Int} (h : ∀ j, 0 ≤ j → p - m ≤ j → j < p → j ∈ ps) : blk m ps p = true := by
  unfold blk
  rw [List.all_eq_true]
  intro j hj
  have h1 := mem_rgI.mp hj
  have := h1.1
  exact decide_eq_true (h j (by split at this <;> omega) (by split at this <;> omega) h1.2)
theorem bad_none {m : Int} {ps : List Int} (h : badN m ps = none) : ∀ p ∈ ps, blk m ps p = false := fun p hp => by
  have := List.find?_eq_none.mp h p hp
  simpa using this
theorem sure_z {m : Int} {ps : List Int} (h : badN m ps = none) {a : Nat} (ha : (a : Int) ∈ ps) : ∃ z, lastZ ps a = some z ∧ (a : Int) - m ≤ z := by
  obtain ⟨j, h1, h2, h3, h4⟩ := blk_false (bad_none h _ ha)
  obtain ⟨z, e, hz⟩ := lastZ_some (ps := ps) (a := a) (j := j.toNat) (by omega) (by rw [Int.toNat_of_nonneg h1]; exact h4)
  exact ⟨z, e, by omega⟩
theorem runN_app {ps : List Int} : ∀ (xs ys : List Int) (f : Int), (∀ i : Nat, i < xs.length → f + i ∈ ps) → runN ps f (xs ++ ys) = xs.sum + runN ps (f + xs.length) ys
  | [], ys, f, _ => by simp
  | x :: xs, ys, f, h => by
    have h0 := h 0 (by simp)
    rw [show f + ((0 : Nat) : Int) = f from by omega] at h0
    have ih := runN_app xs ys (f + 1) fun i hi => by
      have := h (i + 1) (by simp; omega)
      rwa [show f + ((i + 1 : Nat) : Int) = f + 1 + i from by omega] at this
    rw [List.cons_append, runN, if_pos h0, ih, List.sum_cons, List.length_cons, show f + ((xs.length + 1 : Nat) : Int) = f + 1 + xs.length from by omega]
    omega
theorem runN_cut {ps : List Int} : ∀ (e L : Nat) (f : Int) (X : List Int), e ≤ L → f + e ∉ ps → runN ps f (X.take L) = runN ps f (X.take e)
  | 0, L, f, X, _, h => by
    rw [show f + ((0 : Nat) : Int) = f from by omega] at h
    rw [List.take_zero]
    cases X with
    | nil => simp [runN]
    | cons x X =>
      cases L with
      | zero => rfl
      | succ L =>
        rw [List.take_succ_cons]
        show (if f ∈ ps then _ else (0 : Int)) = 0
        rw [if_neg h]
  | e + 1, L, f, [], _, h => by simp
  | e + 1, 0, f, x :: X, hl, h => by omega
  | e + 1, L + 1, f, x :: X, hl, h => by
    rw [List.take_succ_cons, List.take_succ_cons, runN, runN, runN_cut e L (f + 1) X (by omega) (by rwa [show f + 1 + (e : Int) = f + ((e + 1 : Nat) : Int) from by omega])]
/-- all calls -/
def seen (m : Nat) (hats : List Int) (i : Nat) : List Int := (hats.drop (i + 1)).take m
def CN (k : Int) (m : Nat) (ps hats : List Int) : Nat → List Int
  | 0 => []
  | i + 1 => CN k m ps hats i ++ [callN k ps (CN k m ps hats i) (seen m hats i)]
theorem CN_len (k : Int) (m : Nat) (ps hats : List Int) : ∀ i, (CN k m ps hats i).length = i
  | 0 => rfl
  | i + 1 => by rw [CN, List.length_append, CN_len k m ps hats i]; rfl
theorem CN_take (k : Int) (m : Nat) (ps hats : List Int) : ∀ (N i : Nat), i ≤ N → (CN k m ps hats N).take i = CN k m ps hats i
  | 0, i, h => by
    obtain rfl : i = 0 := by omega
    rfl
  | N + 1, i, h => by
    by_cases c : i = N + 1
    · subst c
      rw [List.take_of_length_le (by rw [CN_len]; omega)]
    · rw [CN, List.take_append_of_le_length (by rw [CN_len]; omega)]
      exact CN_take k m ps hats N i (by omega)
theorem CN_get (k : Int) (m : Nat) (ps hats : List Int) {N i : Nat} (h : i < N) : (CN k m ps hats N)[i]? = some (callN k ps (CN k m ps hats i) (seen m hats i)) := by
  have h1 := CN_take k m ps hats N (i + 1) (by omega)
  have h2 : ((CN k m ps hats N).take (i + 1))[i]? = (CN k m ps hats N)[i]? := by
    rw [List.getElem?_take, if_pos (by omega)]
  rw [← h2, h1, CN, List.getElem?_append_right (by rw [CN_len]; omega), CN_len, Nat.sub_self]
  rfl
theorem callN_bd {k : Int} (hk : 2 ≤ k) (ps heard hs : List Int) : 0 ≤ callN k ps heard hs ∧ callN k ps heard hs < k := by
  have h1 := fun x => Int.fmod_nonneg_of_pos x (show 0 < k by omega)
  have h2 := fun x => Int.fmod_lt_of_pos x (show 0 < k by omega)
  unfold callN
  split
  · split
    · exact ⟨h1 _, h2 _⟩
    · omega
  · exact ⟨h1 _, h2 _⟩
theorem CN_bd {k : Int} (hk : 2 ≤ k) (m : Nat) (ps hats : List Int) : ∀ i, ∀ x ∈ CN k m ps hats i, 0 ≤ x ∧ x < k
  | 0, x, hx => by cases hx
  | i + 1, x, hx => by
    rw [CN] at hx
    rcases List.mem_append.mp hx with hx | hx
    · exact CN_bd hk m ps hats i x hx
    · rw [List.mem_singleton.mp hx]
      exact callN_bd hk ps _ _
theorem sure_ {k : Int} (hk : 2 ≤ k) {m : Nat} {ps hats : List Int} (hb : badN m ps = none) (hc : ∀ x ∈ hats, 0 ≤ x ∧ x < k) : ∀ (a : Nat), (a : Int) ∈ ps → a < hats.length → callN k ps (CN k m ps hats a) (seen m hats a) = hats.getD a 0 := by
  intro a
  induction a using Nat.strongRecOn with
  | ind a ih =>
    intro ha hal
    obtain ⟨z, e, hz⟩ := sure_z hb ha
    obtain ⟨_, _, _, h3, h4, h5⟩ := outs_last e
    have hall : ∀ j : Nat, z < j → j ≤ a → (j : Int) ∈ ps := fun j h1 h2 => by
      by_cases q : j = a
      · rw [q]; exact ha
      · exact h5 j h1 (by omega)
    have hget : ∀ (i : Nat), i < hats.length → hats[i]? = some (hats.getD i 0) := fun i hi => by
      rw [List.getD_eq_getElem?_getD, List.getElem?_eq_getElem hi]
      rfl
    -- what is heard between
    have hdrop : (CN k m ps hats a).drop (z + 1) = (hats.drop (z + 1)).take (a - (z + 1)) := by
      refine List.ext_getElem? fun i => ?_
      rw [List.getElem?_drop, List.getElem?_take, List.getElem?_drop]
      by_cases c : i < a - (z + 1)
      · rw [if_pos c, CN_get k m ps hats (show z + 1 + i < a by omega), ih (z + 1 + i) (by omega) (h5 _ (by omega) (by omega)) (by omega), hget _ (by omega)]
      · rw [if_neg c]
        exact List.getElem?_eq_none (by rw [CN_len]; omega)
    have hzv : (CN k m ps hats a).getD z 0 = (runN ps (z + 1) (seen m hats z)).fmod k := by
      rw [List.getD_eq_getElem?_getD, CN_get k m ps hats h3]
      show callN k ps (CN k m ps hats z) (seen m hats z) = _
      unfold callN
      rw [CN_len, if_neg h4]
    -- the run that z sees
    obtain ⟨mid, hmid⟩ : ∃ mid, mid = (hats.drop (z + 1)).take (a - (z + 1)) := ⟨_, rfl⟩
    have hml : mid.length = a - (z + 1) := by rw [hmid, List.length_take, List.length_drop]; omega
    have hsplit : hats.drop (z + 1) = mid ++ (hats.getD a 0 :: hats.drop (a + 1)) := by
      have h1 : hats.drop a = hats.getD a 0 :: hats.drop (a + 1) := by
        rw [List.drop_eq_getElem_cons hal, List.getD_eq_getElem?_getD, List.getElem?_eq_getElem hal]
        rfl
      have h2 : (hats.drop (z + 1)).drop (a - (z + 1)) = hats.drop a := by rw [List.drop_drop]; congr 1; omega
      have h3 := List.take_append_drop (a - (z + 1)) (hats.drop (z + 1))
      rw [h2, h1, ← hmid] at h3
      exact h3.symm
    have hmz : a - z ≤ m := by omega
    have hs1 : seen m hats z = (mid ++ [hats.getD a 0]) ++ (hats.drop (a + 1)).take (m - (a - z)) := by
      unfold seen
      rw [hsplit, show mid ++ (hats.getD a 0 :: hats.drop (a + 1)) = (mid ++ [hats.getD a 0]) ++ hats.drop (a + 1) from by simp, List.take_append, List.take_of_length_le (by simp; omega)]
      congr 2
      simp
      omega
    have hr1 : runN ps (z + 1) (seen m hats z) = mid.sum + hats.getD a 0 + runN ps (a + 1) ((hats.drop (a + 1)).take (m - (a - z))) := by
      rw [hs1, runN_app]
      · rw [List.sum_append, List.sum_singleton, show (z : Int) + 1 + ((mid ++ [hats.getD a 0]).length : Nat) = a + 1 from by simp; omega]
      · intro i hi
        have : i ≤ a - (z + 1) := by simp at hi; omega
        have := hall (z + 1 + i) (by omega) (by omega)
        rwa [show ((z + 1 + i : Nat) : Int) = (z : Int) + 1 + i from by omega] at this
    -- the run ends in sight
    have hend : ∃ j : Nat, a + 1 ≤ j ∧ j ≤ z + m + 1 ∧ (j : Int) ∉ ps := by
      by_cases c : ∃ j : Nat, a + 1 ≤ j ∧ j ≤ z + m + 1 ∧ (j : Int) ∉ ps
      · exact c
      · exfalso
        have hall2 : ∀ j : Nat, z < j → j ≤ z + m + 1 → (j : Int) ∈ ps := fun j h1 h2 => by
          by_cases q : j ≤ a
          · exact hall j h1 q
          · by_cases r : (j : Int) ∈ ps
            · exact r
            · exact absurd ⟨j, by omega, h2, r⟩ c
        have hp := hall2 (z + m + 1) (by omega) (Nat.le_refl _)
        have := blk_true (m := m) (ps := ps) (p := ((z + m + 1 : Nat) : Int)) fun j h1 h2 h3 => by
          have := hall2 j.toNat (by omega) (by omega)
          rwa [Int.toNat_of_nonneg h1] at this
        rw [bad_none hb _ hp] at this
        cases this
    obtain ⟨j, hj1, hj2, hj3⟩ := hend
    have hcut1 := runN_cut (ps := ps) (j - (a + 1)) (m - (a - z)) (a + 1) (hats.drop (a + 1)) (by omega) (by rwa [show (a : Int) + 1 + ((j - (a + 1) : Nat) : Int) = j from by omega])
    have hcut2 := runN_cut (ps := ps) (j - (a + 1)) m (a + 1) (hats.drop (a + 1)) (by omega) (by rwa [show (a : Int) + 1 + ((j - (a + 1) : Nat) : Int) = j from by omega])
    have hr2 : runN ps (a + 1) (seen m hats a) = runN ps (a + 1) ((hats.drop (a + 1)).take (m - (a - z))) := by
      unfold seen
      rw [hcut1, hcut2]
    unfold callN
    rw [CN_len, if_pos ha, e]
    dsimp only
    rw [hzv, hdrop, hr1, hr2, ← hmid]
    generalize runN ps (a + 1) ((hats.drop (a + 1)).take (m - (a - z))) = R
    generalize mid.sum = S
    have hx : 0 ≤ hats.getD a 0 ∧ hats.getD a 0 < k := hc _ (List.mem_of_getElem? (hget a hal))
    generalize hats.getD a 0 = x at *
    rw [Int.fmod_eq_emod_of_nonneg _ (by omega), Int.fmod_eq_emod_of_nonneg _ (by omega)]
    have e1 := Int.emod_def (S + x + R) k
    rw [e1, show S + x + R - k * ((S + x + R) / k) - S - R = x - k * ((S + x + R) / k) from by omega, Int.sub_mul_emod_self_left]
    exact Int.emod_eq_of_lt hx.1 hx.2
end Row
namespace Row
open PySem DL
theorem forGo_cons {tg : Tz} {b : DL.Env → M Out} {d : D} {ds : List D} {ρ ρ1 : DL.Env} (h : M.bind (M.opt (bindT tg d ρ)) b = M.pure (.nx ρ1)) : forGo tg b (d :: ds) ρ = forGo tg b ds ρ1 := by
  show M.bind (M.opt (bindT tg d ρ)) (fun ρ' => M.bind (b ρ') _) = _
  rw [← bb, h, pb]
theorem for_pure {tg : Tz} {b : DL.Env → M Out} (f : Nat → DL.Env) : ∀ (len s : Nat), (∀ i, s ≤ i → i < s + len → M.bind (M.opt (bindT tg (.int (i : Nat)) (f i))) b = M.pure (.nx (f (i + 1)))) → forGo tg b ((List.range' s len).map fun (i : Nat) => D.int (i : Int)) (f s) = M.pure (.nx (f (s + len)))
  | 0, s, _ => rfl
  | len + 1, s, h => by
    rw [List.range'_succ, List.map_cons, forGo_cons (h s (Nat.le_refl _) (by omega)), for_pure f len (s + 1) fun i h1 h2 => h i (by omega) (by omega), show s + 1 + len = s + (len + 1) from by omega]
theorem slc_seen {m : Nat} {hats : List Int} (i : Nat) : slcop (some ((i : Int) + 1)) (some ((i : Int) + 1 + m)) (tI hats) = M.pure (tI (seen m hats i)) := by
  show M.pure (D.tup (cut (hats.map D.int) (some (((i + 1 : Nat) : Int))) (some ((i + 1 + m : Nat) : Int)))) = _
  rw [cut_nat, ← List.map_drop, ← List.map_take, show i + 1 + m - (i + 1) = m from by omega]
  rfl
theorem slc_to {hats : List Int} (i : Nat) : slcop none (some ((i : Nat) : Int)) (tI hats) = M.pure (tI (hats.take i)) := by
  show M.pure (D.tup (cut (hats.map D.int) none (some ((i : Nat) : Int)))) = _
  rw [cut_to, ← List.map_take]
  rfl
theorem lts {C : Nat → List D → M D} {K : Nat → D} {c e : Ez} {tg : Tz} {ρ : DL.Env} (ps : List Int) (h : ∀ p ∈ ps, lcTurn tg (ev C K c).t (ev C K e).e ρ (.int p) = M.pure (some (.bl true))) : lcGo (ps.map D.int) (lcTurn tg (ev C K c).t (ev C K e).e ρ) = M.pure ((ps.map D.int).map fun _ => D.bl true) := by
  rw [lcGo_map (g := fun _ => some (.bl true)) (ps.map D.int) fun d hd => by
    obtain ⟨x, hx, rfl⟩ := List.mem_map.mp hd
    exact h x hx]
  rw [fm_true]
def lc13 : Ez := (.lc (.nm 4) (.var 2) .nil (.cmp .lt (.var 4) (.bf .len (.cons (.var 3) .nil))))
def lb13 : Sz := (.cons (.set 5 (.bin .add (.var 5) (.tup (.cons (.call 17 (.cons (.var 0) (.cons (.var 2) (.cons (.var 5) (.cons (.slc (.var 3) (.bin .add (.var 6) (.int 1)) (.bin .add (.bin .add (.var 6) (.int 1)) (.var 1))) .nil))))) .nil)))) .nil)
theorem eb13 : d13.body = (.cons (.expr (.call 14 (.cons (.var 0) (.cons (.var 1) (.cons (.var 2) .nil))))) (.cons (.ite (.bool .Or (.cons (.not (.call 15 (.cons (.var 3) (.cons (.int 1) (.cons (.gcon 0) .nil))))) (.cons (.not (.call 16 (.cons (.var 0) (.cons (.var 3) .nil)))) .nil))) (.cons (.raise 2) .nil) .nil) (.cons (.ite (.not (.bf .all (.cons lc13 .nil))) (.cons (.raise 1) .nil) .nil) (.cons (.set 5 (.tup .nil)) (.cons (.for (.nm 6) (.range1 (.bf .len (.cons (.var 3) .nil))) lb13) (.cons (.ret (.var 5)) .nil)))))) := rfl
structure Ok (k : Int) (m : Nat) (ps hats : List Int) : Prop where
  hk : 2 ≤ k ∧ k ≤ 10
  hm : m ≤ 30
  pl : Pl hats.length ps
  hb : badN m ps = none
  hN : 1 ≤ hats.length ∧ hats.length ≤ 30
  hc : ∀ x ∈ hats, 0 ≤ x ∧ x < k
theorem Pl.mono {N N' : Int} {ps : List Int} (h : Pl N ps) (hN : N ≤ N') : Pl N' ps := ⟨h.asc, fun p hp => by have := h.bd p hp; omega⟩
theorem line_calls (n : Nat) {k : Int} {m : Nat} {ps hats : List Int} (o : Ok k m ps hats) : F (n + 4) 13 [.int k, .int (m : Nat), tI ps, tI hats] = M.pure (tI (CN k m ps hats hats.length)) := by
  unfold F
  rw [call_at (d := d13) rfl rfl _ rfl, run_eq, eb13]
  have hN : d13.N.length = 7 := rfl
  rw [hN]
  have hl := o.hN
  have pl30 := o.pl.mono (N' := 30) (by omega)
  have hpl := o.pl.len (by omega)
  have e1 := need_sure n pl30 o.hk (m := (m : Int)) (by have := o.hm; omega) o.hb
  have e2 := is_tuple_of (n + 2) (tI hats) 1 30 rfl
  rw [show tupB 1 30 (tI hats) = true from decide_eq_true (by rw [List.length_map]; omega)] at e2
  have e3 := colours (n + 1) (k := k) (hs := hats) (by omega) o.hc
  have rt : res (tI ps) = M.pure (tI ps) := rfl
  have rh : res (tI hats) = M.pure (tI hats) := rfl
  have st : still (tI ps) = M.pure (ps.map D.int) := rfl
  have hlen : seqA (tI hats) = M.pure (hats.map D.int) := rfl
  have hll : (hats.map D.int).length = hats.length := List.length_map ..
  have hlp : lenOk (ps.map D.int) = M.pure (ps.map D.int) := lenOk_le (by rw [List.length_map]; omega)
  have hlc := lts (C := tabF (kcOf ks) tx (n + 3)) (K := kcOf ks) (c := .nil) (e := .cmp .lt (.var 4) (.bf .len (.cons (.var 3) .nil))) (tg := .nm 4) (ρ := [some (.int k), some (.int (m : Nat)), some (tI ps), some (tI hats), none, none, none]) ps (fun p hp => by
    have := (o.pl.bd p hp).2
    generalize tI ps = T at *
    generalize tI hats = HT at *
    generalize hats.map D.int = hD at *
    simp -implicitDefEqProofs [lcTurn, wipeE, Tz.slots, bindT, DL.get, rh, hlen, hll, this])
  have al := all_true (ps.map D.int)
  have hr : rng1 (.int ((hats.length : Nat) : Int)) = M.pure ((List.range' 0 hats.length).map fun (i : Nat) => D.int (i : Int)) := by
    rw [rng1_ok (by omega), Int.toNat_natCast, List.range_eq_range']
  have lp := for_pure (tg := .nm 6) (b := evS (tabF (kcOf ks) tx (n + 3)) (kcOf ks) lb13) (fun i => [some (.int k), some (.int (m : Nat)), some (tI ps), some (tI hats), none, some (tI (CN k m ps hats i)), if i = 0 then none else some (.int ((i - 1 : Nat) : Int))]) hats.length 0 (fun i _ hi => by
    have c := call_of (n + 1) o.hk.1 ps (CN k m ps hats i) (seen m hats i) ⟨by rw [CN_len]; omega, by unfold seen; rw [List.length_take]; have := o.hm; omega⟩ (fun ha => by
      rw [CN_len] at ha ⊢
      obtain ⟨z, e, _⟩ := sure_z o.hb ha
      exact ⟨z, e⟩)
    have sl := slc_seen (m := m) (hats := hats) i
    have ad : binop .add (tI (CN k m ps hats i)) (.tup [.int (callN k ps (CN k m ps hats i) (seen m hats i))]) = M.pure (tI (CN k m ps hats (i + 1))) := by
      show (if _ ≤ sizeLine then M.pure (D.tup _) else M.bad) = _
      rw [if_pos (by rw [sizeLine_eq, List.length_map, CN_len]; show i + 1 ≤ _; omega)]
      unfold tI
      rw [CN, List.map_append]
      rfl
    have rc : res (tI (CN k m ps hats i)) = M.pure (tI (CN k m ps hats i)) := rfl
    have re : (if i + 1 = 0 then none else some (D.int ((i + 1 - 1 : Nat) : Int))) = some (D.int (i : Int)) := by rw [if_neg (by omega)]; rfl
    rw [re]
    generalize callN k ps (CN k m ps hats i) (seen m hats i) = V at *
    generalize tI (CN k m ps hats (i + 1)) = C1 at *
    generalize tI (CN k m ps hats i) = C0 at *
    generalize tI (seen m hats i) = SE at *
    generalize tI ps = T at *
    generalize tI hats = HT at *
    generalize (if i = 0 then none else some (D.int ((i - 1 : Nat) : Int))) = w at *
    unfold F at c
    simp -implicitDefEqProofs [bindT, lb13, evS, DL.get, setE, rt, rh, rc, sl, c, ad])
  rw [if_pos rfl, Nat.zero_add] at lp
  have c0 : tI (CN k m ps hats 0) = .tup [] := rfl
  rw [c0] at lp
  have rc : res (tI (CN k m ps hats hats.length)) = M.pure (tI (CN k m ps hats hats.length)) := rfl
  generalize tI (CN k m ps hats hats.length) = CC at *
  generalize (List.range' 0 hats.length).map (fun (i : Nat) => D.int (i : Int)) = rg at *
  generalize ((ps.map D.int).map fun _ => D.bl true) = zb at *
  generalize ps.map D.int = pD at *
  generalize hats.map D.int = hD at *
  generalize tI ps = T at *
  generalize tI hats = HT at *
  generalize lb13 = B at *
  unfold lc13
  unfold F at e1 e2 e3
  simp -implicitDefEqProofs [evS, DL.get, setE, k0, rt, rh, rc, st, e1, e2, e3, hlp, hlc, al, hlen, hll, hr, lp]
def lc19 : Ez := (.lc (.nm 6) (.var 2) .nil (.cmp .lt (.var 6) (.var 5)))
theorem eb19 : d19.body = (.cons (.expr (.call 14 (.cons (.var 0) (.cons (.var 1) (.cons (.var 2) .nil))))) (.cons (.ite (.bool .Or (.cons (.not (.call 16 (.cons (.var 0) (.cons (.var 3) .nil)))) (.cons (.not (.call 16 (.cons (.var 0) (.cons (.var 4) .nil)))) .nil))) (.cons (.raise 2) .nil) .nil) (.cons (.set 5 (.bin .add (.bin .add (.bf .len (.cons (.var 3) .nil)) (.int 1)) (.bf .len (.cons (.var 4) .nil)))) (.cons (.ite (.bool .Or (.cons (.cmp .ge (.bf .len (.cons (.var 3) .nil)) (.gcon 0)) (.cons (.cmp .gt (.bf .len (.cons (.var 4) .nil)) (.var 1)) (.cons (.cmp .gt (.var 5) (.gcon 0)) .nil)))) (.cons (.raise 2) .nil) .nil) (.cons (.ite (.bool .And (.cons (.cmp .lt (.bf .len (.cons (.var 4) .nil)) (.var 1)) (.cons (.not (.bf .all (.cons lc19 .nil))) .nil))) (.cons (.raise 1) .nil) .nil) (.cons (.ret (.call 17 (.cons (.var 0) (.cons (.var 2) (.cons (.var 3) (.cons (.var 4) .nil)))))) .nil)))))) := rfl
theorem line_call (n : Nat) {k : Int} {m : Nat} {ps hats heard : List Int} (o : Ok k m ps hats) {a : Nat} (ha : a < hats.length) (hla : heard.length = a) (hh : ∀ x ∈ heard, 0 ≤ x ∧ x < k) : F (n + 4) 19 [.int k, .int (m : Nat), tI ps, tI heard, tI (seen m hats a)] = M.pure (.int (callN k ps heard (seen m hats a))) := by
  unfold F
  rw [call_at (d := d19) rfl rfl _ rfl, run_eq, eb19]
  have hN : d19.N.length = 7 := rfl
  rw [hN]
  have hl := o.hN
  have hm := o.hm
  have pl30 := o.pl.mono (N' := 30) (by omega)
  have hpl := o.pl.len (by omega)
  have hsl : (seen m hats a).length = min m (hats.length - (a + 1)) := by unfold seen; rw [List.length_take, List.length_drop]
  have e1 := need_sure n pl30 o.hk (m := (m : Int)) (by omega) o.hb
  have e2 := colours (n + 1) (k := k) (hs := heard) (by omega) hh
  have e3 := colours (n + 1) (k := k) (hs := seen m hats a) (by omega) (fun x hx => o.hc x (by unfold seen at hx; exact List.mem_of_mem_drop (List.mem_of_mem_take hx)))
  have e4 := call_of (n + 1) o.hk.1 ps heard (seen m hats a) ⟨by omega, by omega⟩ (fun q => by
    obtain ⟨z, e, _⟩ := sure_z o.hb q
    exact ⟨z, e⟩)
  have rt : res (tI ps) = M.pure (tI ps) := rfl
  have rh : res (tI heard) = M.pure (tI heard) := rfl
  have rs : res (tI (seen m hats a)) = M.pure (tI (seen m hats a)) := rfl
  have st : still (tI ps) = M.pure (ps.map D.int) := rfl
  have h1 : seqA (tI heard) = M.pure (heard.map D.int) := rfl
  have h2 : (heard.map D.int).length = a := by rw [List.length_map, hla]
  have h3 : seqA (tI (seen m hats a)) = M.pure ((seen m hats a).map D.int) := rfl
  have h4 : ((seen m hats a).map D.int).length = (seen m hats a).length := List.length_map ..
  have hlp : lenOk (ps.map D.int) = M.pure (ps.map D.int) := lenOk_le (by rw [List.length_map]; omega)
  have c1 : decide (30 ≤ (a : Int)) = false := decide_eq_false (by omega)
  have c2 : decide (m < (seen m hats a).length) = false := decide_eq_false (by omega)
  have c3 : decide (30 < (a : Int) + 1 + ((seen m hats a).length : Int)) = false := decide_eq_false (by omega)
  have al := all_true (ps.map D.int)
  by_cases c4 : (seen m hats a).length < m
  · have c4' : decide ((seen m hats a).length < m) = true := decide_eq_true c4
    have hlc := lts (C := tabF (kcOf ks) tx (n + 3)) (K := kcOf ks) (c := .nil) (e := .cmp .lt (.var 6) (.var 5)) (tg := .nm 6) (ρ := [some (.int k), some (.int (m : Nat)), some (tI ps), some (tI heard), some (tI (seen m hats a)), some (.int ((a : Int) + 1 + ((seen m hats a).length : Int))), none]) ps (fun p hp => by
      have hb := (o.pl.bd p hp).2
      have : p < (a : Int) + 1 + ((seen m hats a).length : Int) := by omega
      generalize tI ps = T at *
      generalize (seen m hats a).length = sl at *
      generalize tI (seen m hats a) = SE at *
      generalize tI heard = HE at *
      simp -implicitDefEqProofs [lcTurn, wipeE, Tz.slots, bindT, DL.get, this])
    generalize callN k ps heard (seen m hats a) = V at *
    generalize ((ps.map D.int).map fun _ => D.bl true) = zb at *
    generalize ps.map D.int = pD at *
    generalize heard.map D.int = hD at *
    generalize (seen m hats a).map D.int = sD at *
    generalize (seen m hats a).length = sl at *
    generalize tI (seen m hats a) = SE at *
    generalize tI ps = T at *
    generalize tI heard = HE at *
    unfold lc19
    unfold F at e1 e2 e3 e4
    simp -implicitDefEqProofs [-decide_eq_true_eq, -decide_eq_false_iff_not, evS, DL.get, setE, k0, rt, rh, rs, st, e1, e2, e3, e4, hlp, h1, h2, h3, h4, c1, c2, c3, c4', hlc, al]
  · have c4' : decide ((seen m hats a).length < m) = false := decide_eq_false c4
    generalize callN k ps heard (seen m hats a) = V at *
    generalize ps.map D.int = pD at *
    generalize heard.map D.int = hD at *
    generalize (seen m hats a).map D.int = sD at *
    generalize (seen m hats a).length = sl at *
    generalize tI (seen m hats a) = SE at *
    generalize tI ps = T at *
    generalize tI heard = HE at *
    generalize lc19 = LC at *
    unfold F at e1 e2 e3 e4
    simp -implicitDefEqProofs [-decide_eq_true_eq, -decide_eq_false_iff_not, evS, DL.get, setE, k0, rt, rh, rs, e1, e2, e3, e4, h1, h2, h3, h4, c1, c2, c3, c4']
end Row
namespace Row
open PySem DL
def lb24 : Sz := (.cons (.set 8 (.call 25 (.cons (.var 1) (.cons (.var 2) (.cons (.var 3) (.cons (.slc (.var 5) .nil (.var 6)) (.cons (.slc (.var 4) (.bin .add (.var 6) (.int 1)) (.bin .add (.bin .add (.var 6) (.int 1)) (.var 2))) .nil))))))) (.cons (.set 9 (.call 19 (.cons (.var 1) (.cons (.var 2) (.cons (.var 3) (.cons (.slc (.var 5) .nil (.var 6)) (.cons (.slc (.var 4) (.bin .add (.var 6) (.int 1)) (.bin .add (.bin .add (.var 6) (.int 1)) (.var 2))) .nil))))))) (.cons (.ite (.bool .Or (.cons (.not (.call 11 (.cons (.lst (.cons (.idx (.var 5) (.var 6)) (.cons (.var 9) .nil))) (.cons (.lst (.cons (.var 8) (.cons (.var 8) .nil))) .nil)))) (.cons (.bool .And (.cons (.cmp .mem (.var 6) (.var 3)) (.cons (.cmp .ne (.idx (.var 5) (.var 6)) (.var 7)) .nil))) .nil))) (.cons (.ret (.bl false)) .nil) .nil) .nil)))
def lc24 : Ez := (.lc (.nm 11) (.range1 (.var 6)) .nil (.call 23 (.cons (.var 0) (.cons (.var 1) .nil))))
def c0 : Sz := (.set 5 (.call 13 (.cons (.var 1) (.cons (.var 2) (.cons (.var 3) (.cons (.var 4) .nil))))))
def c1 : Sz := (.ite (.bool .Or (.cons (.cmp .ne (.call 12 (.cons (.var 5) .nil)) (.int 4)) (.cons (.cmp .ne (.bf .len (.cons (.var 5) .nil)) (.bf .len (.cons (.var 4) .nil))) .nil))) (.cons (.ret (.bl false)) .nil) .nil)
def c2 : Sz := (.for (.tp (.cons (.nm 6) (.cons (.nm 7) .nil))) (.enum (.var 4)) lb24)
def c3 : Sz := (.set 6 (.call 23 (.cons (.var 0) (.cons (.bf .len (.cons (.var 4) .nil)) .nil))))
def c4 : Sz := (.set 10 (.bf .tuple (.cons lc24 .nil)))
def c5 : Sz := (.set 12 (.slc (.var 4) (.bin .add (.var 6) (.int 1)) (.bin .add (.bin .add (.var 6) (.int 1)) (.var 2))))
def c6 : Sz := (.ret (.call 11 (.cons (.call 19 (.cons (.var 1) (.cons (.var 2) (.cons (.var 3) (.cons (.var 10) (.cons (.var 12) .nil)))))) (.cons (.call 25 (.cons (.var 1) (.cons (.var 2) (.cons (.var 3) (.cons (.var 10) (.cons (.var 12) .nil)))))) .nil))))
theorem eb24 : d24.body = (.cons c0 (.cons c1 (.cons c2 (.cons c3 (.cons c4 (.cons c5 (.cons c6 .nil))))))) := rfl
theorem wp_calm {α : Type} {μ : Mem} {m : M α} {Q : α → Mem → Prop} (h : wp m μ Q) : wp (calmM m) μ Q := by
  refine ⟨T.good_bind' (T.good_mono (fun r hr => ?_) h.g)⟩
  obtain ⟨a, μ', rfl, h⟩ := hr
  exact ⟨a, μ', rfl, h⟩
theorem sort_t (n : Nat) (xs : List Int) : F (n + 1) 12 [tI xs] = M.pure (.int 4) := by
  unfold F tI
  rw [call_at (d := d12) rfl rfl _ rfl, run_eq]
  have i1 : bfop .isin [.tup (xs.map D.int), .ty "tuple"] = M.pure (.bl true) := rfl
  have i2 : bfop .isin [.tup (xs.map D.int), .ty "bool"] = M.pure (.bl false) := rfl
  have i3 : bfop .isin [.tup (xs.map D.int), .ty "int"] = M.pure (.bl false) := rfl
  have i4 : bfop .isin [.tup (xs.map D.int), .ty "str"] = M.pure (.bl false) := rfl
  have i5 : (D.tup (xs.map D.int)).isNon = false := rfl
  generalize xs.map D.int = xD at *
  simp -implicitDefEqProofs [d12, b12, evS, DL.get, i1, i2, i3, i4, i5]
theorem ne_int (a b : Int) : cmpop .ne (.int a) (.int b) = M.pure (.bl !(a == b)) := by
  rw [ne_plain (by simp [D.plain]) (by simp [D.plain]), D.eqP]
theorem plV (v : Int) : PL 3 (.lst [.int v, .int v]) := ⟨by show 2 ≤ 8000; omega, fun x hx => by
    simp only [List.mem_cons, List.not_mem_nil, or_false] at hx
    rcases hx with rfl | rfl <;> exact trivial⟩
section
variable {k : Int} {m : Nat} {ps hats : List Int} (o : Ok k m ps hats) (n : Nat) {μ : Mem} (hcl : clo μ) (w0 w10 w11 w12 : Option D)
include o hcl
theorem turn24 {i : Nat} (hi : i < hats.length) (x6 x7 x8 x9 : Option D) : Rn μ (M.bind (M.opt (bindT (.tp (.cons (.nm 6) (.cons (.nm 7) .nil))) (.tup [.int (i : Nat), .int (hats.getD i 0)]) [w0, some (.int k), some (.int (m : Nat)), some (tI ps), some (tI hats), some (tI (CN k m ps hats hats.length)), x6, x7, x8, x9, w10, w11, w12])) (evS (F (n + 5)) (kcOf ks) lb24))
    (.nx [w0, some (.int k), some (.int (m : Nat)), some (tI ps), some (tI hats), some (tI (CN k m ps hats hats.length)), some (.int (i : Nat)), some (.int (hats.getD i 0)), some (.int (callN k ps (CN k m ps hats i) (seen m hats i))), some (.int (callN k ps (CN k m ps hats i) (seen m hats i))), w10, w11, w12]) μ := by
  have hl := o.hN
  have hm := o.hm
  have hsl : (seen m hats i).length ≤ m := by unfold seen; rw [List.length_take]; omega
  have sl := slc_seen (m := m) (hats := hats) i
  have st := slc_to (hats := CN k m ps hats hats.length) i
  rw [CN_take k m ps hats _ i (by omega)] at st
  have a1 := law_call (n + 4) hcl (k := k) (m := (m : Int)) o.hk.1 ps (CN k m ps hats i) (seen m hats i) (by omega) ⟨by rw [CN_len]; omega, by omega⟩ (fun q => by
    rw [CN_len] at q ⊢
    obtain ⟨z, e, _⟩ := sure_z o.hb q
    exact ⟨z, e⟩)
  have a2 := line_call (n + 1) o hi (CN_len k m ps hats i) (CN_bd o.hk.1 m ps hats i)
  have L := like_at (Kc := kcOf ks) lk 3 (n + 1) (plV (callN k ps (CN k m ps hats i) (seen m hats i)))
  have hat : M.opt (L2.atI ((CN k m ps hats hats.length).map D.int) ((i : Nat) : Int)) = M.pure (.int (callN k ps (CN k m ps hats i) (seen m hats i))) := by
    rw [atI_int (by rw [CN_len]; exact hi), List.getD_eq_getElem?_getD, CN_get k m ps hats hi]
    rfl
  have hsq : seqA (tI (CN k m ps hats hats.length)) = M.pure ((CN k m ps hats hats.length).map D.int) := rfl
  have hme := mem_ (pd_t ps) (i : Int)
  have hne := ne_int (callN k ps (CN k m ps hats i) (seen m hats i)) (hats.getD i 0)
  have hsure : (i : Int) ∈ ps → callN k ps (CN k m ps hats i) (seen m hats i) = hats.getD i 0 := fun q => sure_ o.hk.1 o.hb o.hc i q hi
  have rt : res (tI ps) = M.pure (tI ps) := rfl
  have rh : res (tI hats) = M.pure (tI hats) := rfl
  have rc : res (tI (CN k m ps hats hats.length)) = M.pure (tI (CN k m ps hats hats.length)) := rfl
  generalize callN k ps (CN k m ps hats i) (seen m hats i) = V at *
  generalize (CN k m ps hats hats.length).map D.int = CD at *
  generalize tI (CN k m ps hats hats.length) = CC at *
  generalize tI (CN k m ps hats i) = C0 at *
  generalize tI (seen m hats i) = SE at *
  generalize tI hats = HT at *
  generalize tI ps = T at *
  generalize hats.getD i 0 = hh at *
  unfold F at *
  simp -implicitDefEqProofs [bindT, bindTs, lb24, evS, DL.get, rt, rh, rc, st, sl]
  refine Rn_bind (Rn_at a1) ?_
  simp -implicitDefEqProofs [setE, DL.get, rt, rh, rc, st, sl, a2, hsq, hat, L]
  by_cases c : (i : Int) ∈ ps
  · rw [decide_eq_true c] at hme
    rw [hsure c] at hne ⊢
    rw [show (hh == hh) = true from by simp] at hne
    simp -implicitDefEqProofs [hme, hne]
    exact Rn_pure
  · rw [decide_eq_false c] at hme
    simp -implicitDefEqProofs [hme]
    exact Rn_pure
theorem loop24 : ∀ (len i : Nat) (x6 x7 x8 x9 : Option D), i + len = hats.length → ∃ y6 y7 y8 y9, Rn μ (forGo (.tp (.cons (.nm 6) (.cons (.nm 7) .nil))) (evS (F (n + 5)) (kcOf ks) lb24) (enI i (hats.drop i)) [w0, some (.int k), some (.int (m : Nat)), some (tI ps), some (tI hats), some (tI (CN k m ps hats hats.length)), x6, x7, x8, x9, w10, w11, w12])
    (.nx [w0, some (.int k), some (.int (m : Nat)), some (tI ps), some (tI hats), some (tI (CN k m ps hats hats.length)), y6, y7, y8, y9, w10, w11, w12]) μ
  | 0, i, x6, x7, x8, x9, h => ⟨x6, x7, x8, x9, by
    rw [List.drop_of_length_le (by omega), enI_nil]
    exact Rn_pure⟩
  | len + 1, i, x6, x7, x8, x9, h => by
    have hi : i < hats.length := by omega
    obtain ⟨y6, y7, y8, y9, ih⟩ := loop24 len (i + 1) (some (.int (i : Nat))) (some (.int (hats.getD i 0))) (some (.int (callN k ps (CN k m ps hats i) (seen m hats i)))) (some (.int (callN k ps (CN k m ps hats i) (seen m hats i)))) (by omega)
    refine ⟨y6, y7, y8, y9, ?_⟩
    have hd : hats.drop i = hats.getD i 0 :: hats.drop (i + 1) := by
      rw [List.drop_eq_getElem_cons hi, List.getD_eq_getElem?_getD, List.getElem?_eq_getElem hi]
      rfl
    rw [hd, enI_cons]
    exact Rn_forCons (turn24 o n hcl w0 w10 w11 w12 hi x6 x7 x8 x9) ih
end
theorem wp_cons {C : Nat → List D → M D} {K : Nat → D} {s ss : Sz} {ρ ρ' : DL.Env} {μ μ' : Mem} {Q : Out → Mem → Prop} (h : Rn μ (evS C K s ρ) (.nx ρ') μ') (h2 : wp (evS C K ss ρ') μ' Q) : wp (evS C K (.cons s ss) ρ) μ Q := wp_bind (wp_rn h h2)
theorem line_right (n : Nat) {k : Int} {m : Nat} {ps hats : List Int} (o : Ok k m ps hats) {μ : Mem} (hc : μ[0]? = some .cup) (hcl : clo μ) {Q : D → Mem → Prop} (hQ : Q (.bl true) μ) : wp (F (n + 6) 24 [.ref 0, .int k, .int (m : Nat), tI ps, tI hats]) μ Q := by
  unfold F
  rw [call_at (d := d24) rfl rfl _ rfl]
  refine wp_pop' hcl (wp_mono (Q := fun a μ' => a = .bl true ∧ μ' = μ) ?_ fun a μ' h => by
    obtain ⟨rfl, rfl⟩ := h
    exact ⟨rfl, ⟨[], by simp⟩, hQ⟩)
  rw [run_eq, eb24]
  have hN : d24.N.length = 13 := rfl
  rw [hN]
  have hl := o.hN
  have hm := o.hm
  have rl : tabF (kcOf ks) tx (n + 5) 23 = primRoll := call_roll rfl (by decide)
  have a0 := line_calls (n + 1) o
  have so := sort_t (n + 4) (CN k m ps hats hats.length)
  have rt : res (tI ps) = M.pure (tI ps) := rfl
  have rh : res (tI hats) = M.pure (tI hats) := rfl
  have rc : res (tI (CN k m ps hats hats.length)) = M.pure (tI (CN k m ps hats hats.length)) := rfl
  have h1 : seqA (tI (CN k m ps hats hats.length)) = M.pure ((CN k m ps hats hats.length).map D.int) := rfl
  have h2 : ((CN k m ps hats hats.length).map D.int).length = hats.length := by rw [List.length_map, CN_len]
  have h3 : seqA (tI hats) = M.pure (hats.map D.int) := rfl
  have h4 : (hats.map D.int).length = hats.length := List.length_map ..
  have he : enumop (tI hats) = M.pure (enI 0 (hats.drop 0)) := by rw [List.drop_zero]; rfl
  have n4 := ne_int 4 4
  have nl := ne_int (hats.length : Int) (hats.length : Int)
  rw [show ((hats.length : Int) == (hats.length : Int)) = true from by simp] at nl
  rw [show ((4 : Int) == 4) = true from rfl] at n4
  obtain ⟨y6, y7, y8, y9, lp⟩ := loop24 o n hcl (some (.ref 0)) none none none hats.length 0 none none none none (by omega)
  refine wp_bind (wp_mono (Q := fun o μ' => o = .rt (.bl true) ∧ μ' = μ) ?_ fun o μ' h => by
    obtain ⟨rfl, rfl⟩ := h
    exact wp_pure ⟨rfl, rfl⟩)
  refine wp_cons (ρ' := [some (.ref 0), some (.int k), some (.int (m : Nat)), some (tI ps), some (tI hats), some (tI (CN k m ps hats hats.length)), none, none, none, none, none, none, none]) (μ' := μ) ?_ ?_
  · generalize tI (CN k m ps hats hats.length) = CC at *
    generalize tI hats = HT at *
    generalize tI ps = T at *
    unfold F at a0
    simp -implicitDefEqProofs [c0, evS, DL.get, rt, rh, a0, setE]
    exact Rn_pure
  refine wp_cons (ρ' := [some (.ref 0), some (.int k), some (.int (m : Nat)), some (tI ps), some (tI hats), some (tI (CN k m ps hats hats.length)), none, none, none, none, none, none, none]) (μ' := μ) ?_ ?_
  · generalize (CN k m ps hats hats.length).map D.int = CD at *
    generalize hats.map D.int = HD at *
    generalize tI (CN k m ps hats hats.length) = CC at *
    generalize tI hats = HT at *
    generalize tI ps = T at *
    unfold F at so
    simp -implicitDefEqProofs [c1, evS, DL.get, rt, rh, rc, so, n4, h1, h2, h3, h4, nl]
    exact Rn_pure
  refine wp_cons (ρ' := [some (.ref 0), some (.int k), some (.int (m : Nat)), some (tI ps), some (tI hats), some (tI (CN k m ps hats hats.length)), y6, y7, y8, y9, none, none, none]) (μ' := μ) ?_ ?_
  · unfold c2
    generalize lb24 = B at *
    generalize enI 0 (hats.drop 0) = EN at *
    generalize tI (CN k m ps hats hats.length) = CC at *
    generalize tI hats = HT at *
    generalize tI ps = T at *
    unfold F at lp
    simp -implicitDefEqProofs [evS, DL.get, rh, he]
    exact lp
  have hk := o.hk
  have hm1 := CN_len k m ps hats hats.length
  have er := fun r : Nat => rng1_ok (n := (r : Int))
  have key : ∀ (r : Nat) (heard : List Int), r < hats.length → heard.length = r → (∀ x ∈ heard, 0 ≤ x ∧ x < k) → F (n + 5) 19 [.int k, .int (m : Nat), tI ps, tI heard, tI (seen m hats r)] = M.pure (.int (callN k ps heard (seen m hats r))) ∧ At μ (F (n + 5) 25 [.int k, .int (m : Nat), tI ps, tI heard, tI (seen m hats r)]) (.int (callN k ps heard (seen m hats r))) := fun r heard h1 h2 h3 =>
    ⟨line_call (n + 1) o h1 h2 h3, law_call (n + 4) hcl (k := k) (m := (m : Int)) o.hk.1 ps heard (seen m hats r) (by unfold seen; rw [List.length_take]; omega) ⟨by omega, by unfold seen; rw [List.length_take]; omega⟩ (fun q => by
      obtain ⟨z, e, _⟩ := sure_z o.hb q
      exact ⟨z, e⟩)⟩
  have slc := fun r => slc_seen (m := m) (hats := hats) r
  have LL := fun v : Int => like_at (Kc := kcOf ks) lk 3 (n + 1) (x := .int v) trivial
  generalize hats.map D.int = HD at *
  generalize tI (CN k m ps hats hats.length) = CC at *
  have rs : ∀ r, res (tI (seen m hats r)) = M.pure (tI (seen m hats r)) := fun _ => rfl
  generalize hHT : tI hats = HT at *
  generalize hTT : tI ps = T at *
  unfold F at *
  simp -implicitDefEqProofs [c3, c4, c5, c6, evS, DL.get, rh, h3, h4, rl]
  refine wp_bind (wp_res hc (fun _ q => nomatch q) (wp_bind (wp_roll hc (by omega) fun r hr => ?_)))
  have hr14 : rng1 (.int (r : Int)) = M.pure ((List.range r).map fun (i : Nat) => D.int (i : Int)) := by
    rw [rng1_ok (by omega), Int.toNat_natCast]
  have hlr : lenOk ((List.range r).map fun (i : Nat) => D.int (i : Int)) = M.pure ((List.range r).map fun (i : Nat) => D.int (i : Int)) := lenOk_le (by simp; omega)
  have hrl : ((List.range r).map fun (i : Nat) => D.int (i : Int)).length = r := by simp
  generalize ((List.range r).map fun (i : Nat) => D.int (i : Int)) = rg at *
  simp -implicitDefEqProofs [setE, DL.get, lc24, hr14, hlr]
  refine wp_bind (wp_lcI (fun i us μ' => μ' = μ ∧ ∃ bs : List Int, us = bs.map D.int ∧ bs.length = i ∧ ∀ b ∈ bs, 0 ≤ b ∧ b < k) (fun i d us μ' hd hI => ?_) (fun us μ' hI => ?_) ⟨rfl, [], rfl, rfl, fun b hb => nomatch hb⟩)
  · obtain ⟨rfl, bs, rfl, hbl, hb⟩ := hI
    refine wp_calm ?_
    simp -implicitDefEqProofs [wipeE, Tz.slots, bindT, DL.get, rl]
    refine wp_bind (wp_res hc (fun _ q => nomatch q) (wp_bind (wp_roll hc (by omega) fun v hv => ?_)))
    refine wp_pure ⟨rfl, bs ++ [(v : Int)], by simp, by simp [hbl], fun b hb' => ?_⟩
    rcases List.mem_append.mp hb' with h | h
    · exact hb b h
    · rw [List.mem_singleton.mp h]; omega
  · obtain ⟨rfl, bs, rfl, hbl, hb⟩ := hI
    obtain ⟨e1, e2⟩ := key r bs (by omega) (by omega) hb
    have hsl := slc r
    have rsr := rs r
    have rbs : res (.tup (bs.map D.int)) = M.pure (.tup (bs.map D.int)) := rfl
    have LV := LL (callN k ps bs (seen m hats r))
    have hbt : tI bs = .tup (bs.map D.int) := rfl
    rw [hbt] at e1 e2
    generalize callN k ps bs (seen m hats r) = V at *
    generalize tI (seen m hats r) = SE at *
    generalize D.tup (bs.map D.int) = BT at *
    simp -implicitDefEqProofs [setE, DL.get, rt, rh, hsl, rsr, rbs, e1]
    refine wp_bind (wp_at e2 ?_)
    rw [LV, pb]
    exact wp_pure ⟨rfl, rfl⟩
end Row
namespace Row
open PySem DL
def lc20 : Ez := (.lc (.nm 6) (.range1 (.int 30)) .nil (.call 23 (.cons (.var 0) (.cons (.var 2) .nil))))
def g0 : Sz := (.set 1 (.lst (.cons (.call 22 (.cons (.int 30) (.cons (.int 29) .nil))) (.cons (.call 21 (.cons (.int 30) (.cons (.int 29) .nil))) (.cons (.call 22 (.cons (.int 30) (.cons (.int 1) .nil))) (.cons (.call 22 (.cons (.int 30) (.cons (.int 0) .nil))) (.cons (.call 22 (.cons (.int 30) (.cons (.int 30) .nil))) (.cons (.call 22 (.cons (.int 29) (.cons (.int 4) .nil))) .nil))))))))
def g1 : Sz := (.ite (.not (.call 11 (.cons (.var 1) (.cons (.lst (.cons (.int 29) (.cons (.trng (.int 1) (.int 30)) (.cons (.int 15) (.cons (.int 0) (.cons (.int 29) (.cons (.int 23) .nil))))))) .nil)))) (.cons (.ret (.bl false)) .nil) .nil)
def g2 : Sz := (.tset (.cons (.nm 2) (.cons (.nm 3) .nil)) (.tup (.cons (.bin .add (.int 2) (.call 23 (.cons (.var 0) (.cons (.int 9) .nil)))) (.cons (.call 23 (.cons (.var 0) (.cons (.int 31) .nil))) .nil))))
def g3 : Sz := (.set 4 (.call 21 (.cons (.int 30) (.cons (.var 3) .nil))))
def g4 : Sz := (.set 5 (.bf .tuple (.cons lc20 .nil)))
def g5 : Sz := (.ite (.bool .Or (.cons (.not (.call 24 (.cons (.var 0) (.cons (.var 2) (.cons (.var 3) (.cons (.var 4) (.cons (.var 5) .nil))))))) (.cons (.not (.call 24 (.cons (.var 0) (.cons (.var 2) (.cons (.int 29) (.cons (.trng (.int 1) (.int 30)) (.cons (.var 5) .nil))))))) .nil))) (.cons (.ret (.bl false)) .nil) .nil)
def g6 : Sz := (.ret (.bool .And (.cons (.cmp .eq (.call 10 (.cons (.int 30) (.cons (.int 28) (.cons (.trng (.int 1) (.int 30)) .nil)))) (.int 29)) (.cons (.cmp .isB (.call 3 (.cons (.int 30) (.cons (.int 29) (.cons (.trng (.int 1) (.int 30)) .nil)))) (.bl true)) .nil))))
theorem eb20 : d20.body = (.cons g0 (.cons g1 (.cons g2 (.cons g3 (.cons g4 (.cons g5 (.cons g6 .nil))))))) := rfl
def lc21 : Ez := (.lc (.nm 2) (.range1 (.var 0)) (.cmp .ne (.bin .mod (.var 2) (.bin .add (.var 1) (.int 1))) (.int 0)) (.var 2))
theorem eb21 : d21.body = (.cons (.expr (.call 5 (.cons (.var 0) (.cons (.int 1) (.cons (.gcon 0) .nil))))) (.cons (.expr (.call 5 (.cons (.var 1) (.cons (.int 0) (.cons (.gcon 0) .nil))))) (.cons (.ret (.bf .tuple (.cons lc21 .nil))) .nil))) := rfl
theorem whT {lo hi x : Int} (h : lo ≤ x ∧ x ≤ hi) : whB lo hi (.int x) = true := decide_eq_true h
theorem needT (n : Nat) {lo hi x : Int} (h : lo ≤ x ∧ x ≤ hi) : F (n + 2) 5 [.int x, .int lo, .int hi] = M.pure .non := by
  have e := need_whole n (.int x) lo hi rfl
  rw [whT h, if_pos rfl] at e
  exact e
theorem most_sure (n : Nat) {N m : Int} (hN : 1 ≤ N ∧ N ≤ 30) (hm : 0 ≤ m ∧ m ≤ 30) : F (n + 3) 22 [.int N, .int m] = M.pure (.int (N - (N + m).fdiv (m + 1))) := by
  have e1 := needT n hN
  have e2 := needT n hm
  have d := bin_fdivS (i := N + m) (j := m + 1) (by omega)
  unfold F at *
  rw [call_at (d := d22) rfl rfl _ rfl, run_eq]
  simp -implicitDefEqProofs [d22, b22, evS, DL.get, k0, e1, e2, d]
def firstN (N m : Int) : List Int := (rgI 0 N).filter fun j => !(j.fmod (m + 1) == 0)
theorem first_sure (n : Nat) {N m : Int} (hN : 1 ≤ N ∧ N ≤ 30) (hm : 0 ≤ m ∧ m ≤ 30) : F (n + 3) 21 [.int N, .int m] = M.pure (tI (firstN N m)) := by
  have e1 := needT n hN
  have e2 := needT n hm
  unfold F at *
  rw [call_at (d := d21) rfl rfl _ rfl, run_eq, eb21]
  have hNn : d21.N.length = 3 := rfl
  rw [hNn]
  have hr : rng1 (.int N) = M.pure ((rgI 0 N).map D.int) := by
    rw [rng1_ok (by omega)]
    unfold rgI
    rw [List.map_map, Int.sub_zero]
    congr 1
    refine List.map_congr_left fun i _ => ?_
    show D.int (i : Int) = D.int (0 + (i : Int))
    rw [Int.zero_add]
  have hlen : lenOk ((rgI 0 N).map D.int) = M.pure ((rgI 0 N).map D.int) := lenOk_le (by rw [List.length_map, len_rgI]; omega)
  have hlc := lcFil (tg := .nm 2) (C := tabF (kcOf ks) tx (n + 2)) (K := kcOf ks) (c := .cmp .ne (.bin .mod (.var 2) (.bin .add (.var 1) (.int 1))) (.int 0)) (e := .var 2) (ρ := [some (.int N), some (.int m), none]) (P := fun j => !(j.fmod (m + 1) == 0)) (rgI 0 N) (fun x _ => by
    have md : binop .mod (.int x) (.int (m + 1)) = M.pure (.int (x.fmod (m + 1))) := bin_mod (by omega)
    have ne := ne_int (x.fmod (m + 1)) 0
    generalize x.fmod (m + 1) = z at *
    cases c : (z == 0) with
    | true =>
      rw [c] at ne
      simp -implicitDefEqProofs [lcTurn, wipeE, Tz.slots, bindT, DL.get, md, ne, c]
    | false =>
      rw [c] at ne
      simp -implicitDefEqProofs [lcTurn, wipeE, Tz.slots, bindT, DL.get, md, ne, c])
  unfold firstN tI
  generalize ((rgI 0 N).filter fun j => !(j.fmod (m + 1) == 0)).map D.int = fl at *
  generalize (rgI 0 N).map D.int = rg at *
  unfold lc21
  simp -implicitDefEqProofs [evS, DL.get, k0, e1, e2, hr, hlen, hlc]
theorem rgI_asc (i j : Int) : (rgI i j).Pairwise (· < ·) := by
  unfold rgI
  refine List.pairwise_map.mpr ?_
  exact List.Pairwise.imp (fun h => by omega) (List.pairwise_lt_range)
theorem first_pl {N m : Int} : Pl N (firstN N m) := ⟨(rgI_asc 0 N).filter _, fun p hp => by
  have := mem_rgI.mp (List.mem_filter.mp hp).1
  omega⟩
theorem first_ok : ∀ m : Nat, m < 31 → badN m (firstN 30 m) = none := by decide +kernel
theorem all_pl : Pl 30 (rgI 1 30) := ⟨rgI_asc 1 30, fun p hp => by have := mem_rgI.mp hp; omega⟩
theorem all_ok : badN ((29 : Nat) : Int) (rgI 1 30) = none := by decide +kernel
theorem all_28 : badN 28 (rgI 1 30) = some 29 := by decide +kernel
theorem l6 (a b c d e f : D) : lenOk [a, b, c, d, e, f] = M.pure [a, b, c, d, e, f] := lenOk_le (by show 6 ≤ 8000; omega)
def dG : List D := [.int 29, tI (rgI 1 30), .int 15, .int 0, .int 29, .int 23]
theorem plI (k : Nat) (v : Int) : PL (k + 1) (.int v) := trivial
theorem plT (k : Nat) (xs : List Int) (h : xs.length ≤ 8000) : PL (k + 2) (tI xs) := ⟨by rw [List.length_map]; exact h, fun x hx => by
  obtain ⟨i, _, rfl⟩ := List.mem_map.mp hx
  exact trivial⟩
theorem great_pre (n : Nat) (rest : Sz) : evS (F (n + 7)) (kcOf ks) (.cons g0 (.cons g1 rest)) [some (.ref 0), none, none, none, none, none, none] = evS (F (n + 7)) (kcOf ks) rest [some (.ref 0), some (.lst dG), none, none, none, none, none] := by
  have a1 := most_sure (n + 4) (N := 30) (m := 29) (by decide) (by decide)
  have a2 := first_sure (n + 4) (N := 30) (m := 29) (by decide) (by decide)
  have a3 := most_sure (n + 4) (N := 30) (m := 1) (by decide) (by decide)
  have a4 := most_sure (n + 4) (N := 30) (m := 0) (by decide) (by decide)
  have a5 := most_sure (n + 4) (N := 30) (m := 30) (by decide) (by decide)
  have a6 := most_sure (n + 4) (N := 29) (m := 4) (by decide) (by decide)
  rw [show (30 : Int) - (30 + 29 : Int).fdiv (29 + 1) = 29 from by decide +kernel] at a1
  rw [show firstN 30 29 = rgI 1 30 from by decide +kernel] at a2
  rw [show (30 : Int) - (30 + 1 : Int).fdiv (1 + 1) = 15 from by decide +kernel] at a3
  rw [show (30 : Int) - (30 + 0 : Int).fdiv (0 + 1) = 0 from by decide +kernel] at a4
  rw [show (30 : Int) - (30 + 30 : Int).fdiv (30 + 1) = 29 from by decide +kernel] at a5
  rw [show (29 : Int) - (29 + 4 : Int).fdiv (4 + 1) = 23 from by decide +kernel] at a6
  have L := like_at (Kc := kcOf ks) lk 3 (n + 3) (x := .lst dG) ⟨by decide, fun x hx => by
    simp only [dG, List.mem_cons, List.not_mem_nil, or_false] at hx
    rcases hx with rfl | rfl | rfl | rfl | rfl | rfl
    · exact trivial
    · exact plT 0 (rgI 1 30) (by rw [len_rgI]; decide)
    · exact trivial
    · exact trivial
    · exact trivial
    · exact trivial⟩
  have hr : rng2 (.int 1) (.int 30) = M.pure ((rgI 1 30).map D.int) := rng2_ (by decide) (by decide)
  have hlen : lenOk ((rgI 1 30).map D.int) = M.pure ((rgI 1 30).map D.int) := lenOk_le (by rw [List.length_map, len_rgI]; decide)
  have hT : (D.tup ((rgI 1 30).map D.int)) = tI (rgI 1 30) := rfl
  have ll := l6
  unfold dG at *
  generalize hA : tI (rgI 1 30) = A at *
  generalize (rgI 1 30).map D.int = rD at *
  unfold F at *
  simp -implicitDefEqProofs [g0, g1, evS, DL.get, setE, a1, a2, a3, a4, a5, a6, ll, hr, hlen, hT, L]
theorem great_right (n : Nat) {μ : Mem} (hc : μ[0]? = some .cup) (hcl : clo μ) {Q : D → Mem → Prop} (hQ : Q (.bl true) μ) : wp (F (n + 8) 20 [.ref 0]) μ Q := by
  unfold F
  rw [call_at (d := d20) rfl rfl _ rfl]
  refine wp_pop' hcl (wp_mono (Q := fun a μ' => a = .bl true ∧ μ' = μ) ?_ fun a μ' h => by
    obtain ⟨rfl, rfl⟩ := h
    exact ⟨rfl, ⟨[], by simp⟩, hQ⟩)
  rw [run_eq, eb20]
  have hN : d20.N.length = 7 := rfl
  rw [hN]
  have pre := great_pre n (.cons g2 (.cons g3 (.cons g4 (.cons g5 (.cons g6 .nil)))))
  unfold F at pre
  refine wp_bind (wp_mono (Q := fun o μ' => o = .rt (.bl true) ∧ μ' = μ) ?_ fun o μ' h => by
    obtain ⟨rfl, rfl⟩ := h
    exact wp_pure ⟨rfl, rfl⟩)
  show wp (evS (tabF (kcOf ks) tx (n + 7)) (kcOf ks) _ [some (.ref 0), none, none, none, none, none, none]) μ _
  rw [pre]
  have rl : tabF (kcOf ks) tx (n + 7) 23 = primRoll := call_roll rfl (by decide)
  have fs := fun (r : Nat) (hr : r < 31) => first_sure (n + 4) (N := 30) (m := (r : Int)) (by decide) (by omega)
  have lr := fun {k m ps hats} (o : Ok k m ps hats) {Q} => line_right (n + 1) o hc hcl (Q := Q)
  have u1 := unsure (n + 3) (N := 30) (m := 28) all_pl (by decide) (by decide)
  have u2 := can_be_sure (n + 3) (N := 30) (m := 29) all_pl (by decide) (by decide)
  rw [all_28] at u1
  rw [show badN 29 (rgI 1 30) = none from all_ok] at u2
  have u1 : F (n + 7) 10 [.int 30, .int 28, tI (rgI 1 30)] = M.pure (.int 29) := u1
  have u2 : F (n + 7) 3 [.int 30, .int 29, tI (rgI 1 30)] = M.pure (.bl true) := u2
  have eq29 : cmpop .eq (.int 29) (.int 29) = M.pure (.bl true) := by rw [eq_plain (by simp [D.plain]) (by simp [D.plain]), D.eqP]; rfl
  have isb : cmpop .isB (.bl true) (.bl true) = M.pure (.bl true) := rfl
  have hr : rng2 (.int 1) (.int 30) = M.pure ((rgI 1 30).map D.int) := rng2_ (by decide) (by decide)
  have hlen : lenOk ((rgI 1 30).map D.int) = M.pure ((rgI 1 30).map D.int) := lenOk_le (by rw [List.length_map, len_rgI]; decide)
  have hT : (D.tup ((rgI 1 30).map D.int)) = tI (rgI 1 30) := rfl
  have hr30 : rng1 (.int 30) = M.pure ((List.range 30).map fun (i : Nat) => D.int (i : Int)) := by
    rw [rng1_ok (by omega)]
    rfl
  have hl30 : lenOk ((List.range 30).map fun (i : Nat) => D.int (i : Int)) = M.pure ((List.range 30).map fun (i : Nat) => D.int (i : Int)) := lenOk_le (by simp)
  have hn30 : ((List.range 30).map fun (i : Nat) => D.int (i : Int)).length = 30 := by simp
  generalize ((List.range 30).map fun (i : Nat) => D.int (i : Int)) = rg30 at *
  have hA29 : ∀ {k : Int} {hats : List Int}, (2 ≤ k ∧ k ≤ 10) → hats.length = 30 → (∀ x ∈ hats, 0 ≤ x ∧ x < k) → Ok k 29 (rgI 1 30) hats := fun hk hl hc => ⟨hk, by decide, by rw [hl]; exact all_pl, all_ok, by omega, hc⟩
  have hAf : ∀ {k : Int} {hats : List Int} {m : Nat}, m < 31 → (2 ≤ k ∧ k ≤ 10) → hats.length = 30 → (∀ x ∈ hats, 0 ≤ x ∧ x < k) → Ok k m (firstN 30 m) hats := fun hm hk hl hc => ⟨hk, by omega, by rw [hl]; exact first_pl, first_ok _ hm, by omega, hc⟩
  have hrs : ∀ xs : List Int, res (tI xs) = M.pure (tI xs) := fun _ => rfl
  generalize hAA : rgI 1 30 = A at *
  generalize dG = DG at *
  unfold F at *
  simp -implicitDefEqProofs [g2, evS, DL.get, rl]
  refine wp_bind (wp_res hc (fun _ q => nomatch q) (wp_bind (wp_roll hc (by decide) fun r1 hr1 => ?_)))
  rw [bin_add', pb]
  refine wp_bind (wp_res hc (fun _ q => nomatch q) (wp_bind (wp_roll hc (by decide) fun r2 hr2 => ?_)))
  have f2 := fs r2 (by omega)
  have hk : 2 ≤ 2 + (r1 : Int) ∧ 2 + (r1 : Int) ≤ 10 := by omega
  simp -implicitDefEqProofs [bindT, bindTs, g3, evS, DL.get, setE, f2, hrs, g4, lc20, hr30, hl30, rl]
  refine wp_bind (wp_lcI (fun i us μ' => μ' = μ ∧ ∃ bs : List Int, us = bs.map D.int ∧ bs.length = i ∧ ∀ b ∈ bs, 0 ≤ b ∧ b < 2 + (r1 : Int)) (fun i d us μ' hd hI => ?_) (fun us μ' hI => ?_) ⟨rfl, [], rfl, rfl, fun b hb => nomatch hb⟩)
  · obtain ⟨rfl, bs, rfl, hbl, hb⟩ := hI
    refine wp_calm ?_
    simp -implicitDefEqProofs [wipeE, Tz.slots, bindT, DL.get]
    refine wp_bind (wp_res hc (fun _ q => nomatch q) (wp_bind (wp_roll hc (by omega) fun v hv => ?_)))
    refine wp_pure ⟨rfl, bs ++ [(v : Int)], by simp, by simp [hbl], fun b hb' => ?_⟩
    rcases List.mem_append.mp hb' with h | h
    · exact hb b h
    · rw [List.mem_singleton.mp h]; omega
  · obtain ⟨rfl, bs, rfl, hbl, hb⟩ := hI
    have o1 := hAf (m := r2) (by omega) hk (show bs.length = 30 by omega) hb
    have o2 := hA29 hk (show bs.length = 30 by omega) hb
    have hbt : D.tup (bs.map D.int) = tI bs := rfl
    rw [hbt]
    have rbs : res (tI bs) = M.pure (tI bs) := rfl
    have l1 := fun {Q} => lr o1 (Q := Q)
    have l2 := fun {Q} => lr o2 (Q := Q)
    have rft : res (tI (firstN 30 (r2 : Int))) = M.pure (tI (firstN 30 (r2 : Int))) := rfl
    generalize tI bs = BT at *
    generalize tI (firstN 30 (r2 : Int)) = FT at *
    simp -implicitDefEqProofs [setE, DL.get, g5, g6, evS, hrs, rbs, rft, hr, hlen, hT, u1, u2, eq29, isb]
    refine wp_bind (wp_res hc (fun _ q => nomatch q) ?_)
    refine wp_bind (l1 ?_)
    simp -implicitDefEqProofs
    refine wp_bind (wp_res hc (fun _ q => nomatch q) ?_)
    refine wp_bind (l2 ?_)
    simp -implicitDefEqProofs
    exact wp_pure ⟨rfl, rfl⟩
end Row
namespace Row
open PySem DL
def lg28 : Ez := (.lc (.nm 3) (.call 29 (.cons (.var 0) .nil)) (.cmp .isN (.call 2 (.cons (.var 1) (.cons (.var 3) .nil))) .non) (.var 3))
def lm28 : Ez := (.lc (.nm 3) (.var 2) .nil (.bf .len (.cons (.var 3) .nil)))
def lf28 : Ez := (.lc (.nm 3) (.var 2) (.cmp .eq (.bf .len (.cons (.var 3) .nil)) (.var 4)) (.var 3))
def lb28 : Sz := (.cons (.set 6 (.call 2 (.cons (.var 1) (.cons (.var 3) .nil)))) (.cons (.ite (.not (.call 11 (.cons (.lst (.cons (.call 3 (.cons (.var 0) (.cons (.var 1) (.cons (.var 3) .nil)))) (.cons (.call 10 (.cons (.var 0) (.cons (.var 1) (.cons (.var 3) .nil)))) .nil))) (.cons (.lst (.cons (.cmp .isN (.var 6) .non) (.cons (.var 6) .nil))) .nil)))) (.cons (.ret (.bl false)) .nil) .nil) .nil))
def s0 : Sz := (.set 2 lg28)
def s1 : Sz := (.set 4 (.bf .max1 (.cons lm28 .nil)))
def s2 : Sz := (.set 5 (.bf .minD (.cons lf28 .nil)))
def s3 : Sz := (.ite (.not (.call 11 (.cons (.lst (.cons (.call 22 (.cons (.var 0) (.cons (.var 1) .nil))) (.cons (.call 21 (.cons (.var 0) (.cons (.var 1) .nil))) .nil))) (.cons (.lst (.cons (.var 4) (.cons (.var 5) .nil))) .nil)))) (.cons (.ret (.bl false)) .nil) .nil)
def s4 : Sz := (.for (.nm 3) (.call 29 (.cons (.var 0) .nil)) lb28)
def s5 : Sz := (.ret (.bl true))
theorem eb28 : d28.body = (.cons s0 (.cons s1 (.cons s2 (.cons s3 (.cons s4 (.cons s5 .nil)))))) := rfl
def setsN : Nat → List (List Int)
  | 0 => [[]]
  | p + 1 => setsN p ++ (setsN p).map fun s => s ++ [(p : Int)]
theorem sets_pl : ∀ (p : Nat), ∀ s ∈ setsN p, Pl p s
  | 0, s, h => by
    rw [List.mem_singleton.mp h]
    exact ⟨.nil, fun x hx => nomatch hx⟩
  | p + 1, s, h => by
    rw [setsN] at h
    rcases List.mem_append.mp h with h | h
    · exact (sets_pl p s h).mono (by omega)
    · obtain ⟨r, hr, rfl⟩ := List.mem_map.mp h
      have ih := sets_pl p r hr
      refine ⟨List.pairwise_append.mpr ⟨ih.asc, List.pairwise_singleton _ _, fun x hx y hy => ?_⟩, fun x hx => ?_⟩
      · rw [List.mem_singleton.mp hy]
        exact (ih.bd x hx).2
      · rcases List.mem_append.mp hx with hx | hx
        · have := ih.bd x hx; omega
        · rw [List.mem_singleton.mp hx]; omega
theorem sets_call (n : Nat) {N : Nat} (e : ∀ C, run C (kcOf ks) d29.N.length d29.body [.int (N : Int)] = M.pure (.lst ((setsN N).map tI))) : F (n + 1) 29 [.int (N : Int)] = M.pure (.lst ((setsN N).map tI)) := by
  unfold F
  rw [call_at (d := d29) rfl rfl _ rfl, e]
  simp
theorem sets1 (C : Nat → List D → M D) : run C (kcOf ks) d29.N.length d29.body [.int ((1 : Nat) : Int)] = M.pure (.lst ((setsN 1).map tI)) := by kernel_rfl
theorem sets2 (C : Nat → List D → M D) : run C (kcOf ks) d29.N.length d29.body [.int ((2 : Nat) : Int)] = M.pure (.lst ((setsN 2).map tI)) := by kernel_rfl
theorem sets3 (C : Nat → List D → M D) : run C (kcOf ks) d29.N.length d29.body [.int ((3 : Nat) : Int)] = M.pure (.lst ((setsN 3).map tI)) := by kernel_rfl
theorem sets4 (C : Nat → List D → M D) : run C (kcOf ks) d29.N.length d29.body [.int ((4 : Nat) : Int)] = M.pure (.lst ((setsN 4).map tI)) := by kernel_rfl
theorem sets5 (C : Nat → List D → M D) : run C (kcOf ks) d29.N.length d29.body [.int ((5 : Nat) : Int)] = M.pure (.lst ((setsN 5).map tI)) := by kernel_rfl
theorem sets6 (C : Nat → List D → M D) : run C (kcOf ks) d29.N.length d29.body [.int ((6 : Nat) : Int)] = M.pure (.lst ((setsN 6).map tI)) := by kernel_rfl
theorem lcFilT {tg : Tz} {C : Nat → List D → M D} {K : Nat → D} {c e : Ez} {ρ : DL.Env} {P : List Int → Bool} (xs : List (List Int)) (h : ∀ x ∈ xs, lcTurn tg (ev C K c).t (ev C K e).e ρ (tI x) = M.pure (if P x = true then some (tI x) else none)) : lcGo (xs.map tI) (lcTurn tg (ev C K c).t (ev C K e).e ρ) = M.pure ((xs.filter P).map tI) := by
  induction xs with
  | nil => rfl
  | cons x xs ih =>
    rw [List.map_cons]
    show M.bind _ (fun o => M.bind (lcGo (xs.map tI) _) _) = _
    rw [h x List.mem_cons_self, pb, ih fun y hy => h y (List.mem_cons_of_mem _ hy), pb, List.filter_cons]
    cases hP : P x <;> simp [hP]
theorem lcMapT {tg : Tz} {C : Nat → List D → M D} {K : Nat → D} {c e : Ez} {ρ : DL.Env} {g : List Int → D} (xs : List (List Int)) (h : ∀ x ∈ xs, lcTurn tg (ev C K c).t (ev C K e).e ρ (tI x) = M.pure (some (g x))) : lcGo (xs.map tI) (lcTurn tg (ev C K c).t (ev C K e).e ρ) = M.pure (xs.map g) := by
  induction xs with
  | nil => rfl
  | cons x xs ih =>
    rw [List.map_cons]
    show M.bind _ (fun o => M.bind (lcGo (xs.map tI) _) _) = _
    rw [h x List.mem_cons_self, pb, ih fun y hy => h y (List.mem_cons_of_mem _ hy), pb]
    rfl
def goodN (N : Nat) (m : Int) : List (List Int) := (setsN N).filter fun s => (optD (badN m s)).isNon
def mostN (N : Nat) (m : Int) : Int := (N : Int) - ((N : Int) + m).fdiv (m + 1)
structure Sx (N : Nat) (m : Int) : Prop where
  hN : 1 ≤ N ∧ N ≤ 6
  hm : 0 ≤ m ∧ m ≤ 30
  hs : ∀ C, run C (kcOf ks) d29.N.length d29.body [.int (N : Int)] = M.pure (.lst ((setsN N).map tI))
  hl : (setsN N).length ≤ 100
  f1 : ((goodN N m).map fun s => (s.length : Int)).max? = some (mostN N m)
  f2 : bestOf (fun y a => PySem.W.dataLt y a) (((goodN N m).filter fun s => ((s.length : Int) == mostN N m)).map tI) = some (tI (firstN N m))
theorem eq_int (a b : Int) : cmpop .eq (.int a) (.int b) = M.pure (.bl (a == b)) := by
  rw [eq_plain (by simp [D.plain]) (by simp [D.plain]), D.eqP]
theorem plO (k : Nat) (o : Option Int) : PL (k + 1) (optD o) := by cases o <;> exact trivial
theorem res_optD (o : Option Int) : res (optD o) = M.pure (optD o) := by cases o <;> rfl
theorem loop28 (n : Nat) {N : Nat} {m : Int} (hN : 1 ≤ N ∧ N ≤ 6) (hm : 0 ≤ m ∧ m ≤ 30) (w2 w4 w5 : Option D) : ∀ (xs : List (List Int)) (x y : Option D), (∀ s ∈ xs, Pl N s) → ∃ x' y', forGo (.nm 3) (evS (F (n + 5)) (kcOf ks) lb28) (xs.map tI) [some (.int (N : Int)), some (.int m), w2, x, w4, w5, y] = M.pure (.nx [some (.int (N : Int)), some (.int m), w2, x', w4, w5, y'])
  | [], x, y, _ => ⟨x, y, rfl⟩
  | s :: xs, x, y, h => by
    obtain ⟨x', y', ih⟩ := loop28 n hN hm w2 w4 w5 xs (some (tI s)) (some (optD (badN m s))) fun r hr => h r (List.mem_cons_of_mem _ hr)
    refine ⟨x', y', ?_⟩
    rw [List.map_cons]
    have hp := h s List.mem_cons_self
    have e1 := bad2 (n + 4) (pd_t s) (m := m) (by omega) (hp.b1000 (by omega))
    have e2 := can_be_sure (n + 1) (N := (N : Int)) (m := m) hp (by omega) hm
    have e3 := unsure (n + 1) (N := (N : Int)) (m := m) hp (by omega) hm
    have L := like_at (Kc := kcOf ks) lk 3 (n + 1) (x := .lst [.bl (optD (badN m s)).isNon, optD (badN m s)]) ⟨by show 2 ≤ 8000; omega, fun x hx => by
      simp only [List.mem_cons, List.not_mem_nil, or_false] at hx
      rcases hx with rfl | rfl
      · exact trivial
      · exact plO 1 _⟩
    have ro := res_optD (badN m s)
    rw [forGo_cons ?_]
    · exact ih
    generalize optD (badN m s) = o at *
    have rs : res (tI s) = M.pure (tI s) := rfl
    generalize tI s = T at *
    unfold F at *
    simp -implicitDefEqProofs [bindT, lb28, evS, DL.get, setE, rs, ro, e1, e2, e3, L]
theorem sets_right (n : Nat) {N : Nat} {m : Int} (h : Sx N m) : F (n + 6) 28 [.int (N : Int), .int m] = M.pure (.bl true) := by
  have hN := h.hN
  have hm := h.hm
  have a1 := sets_call (n + 4) h.hs
  have a2 := most_sure (n + 2) (N := (N : Int)) (m := m) (by omega) hm
  have a3 := first_sure (n + 2) (N := (N : Int)) (m := m) (by omega) hm
  obtain ⟨x', y', lp⟩ := loop28 n hN hm (some (.lst ((goodN N m).map tI))) (some (.int (mostN N m))) (some (tI (firstN N m))) (setsN N) none none (sets_pl N)
  have hgl : (goodN N m).length ≤ 100 := Nat.le_trans (List.length_filter_le ..) h.hl
  have hl1 : lenOk ((setsN N).map tI) = M.pure ((setsN N).map tI) := lenOk_le (by rw [List.length_map]; have := h.hl; omega)
  have hl2 : lenOk ((goodN N m).map tI) = M.pure ((goodN N m).map tI) := lenOk_le (by rw [List.length_map]; omega)
  have lc1 := lcFilT (tg := .nm 3) (C := F (n + 5)) (K := kcOf ks) (c := .cmp .isN (.call 2 (.cons (.var 1) (.cons (.var 3) .nil))) .non) (e := .var 3) (ρ := [some (.int (N : Int)), some (.int m), none, none, none, none, none]) (P := fun s => (optD (badN m s)).isNon) (setsN N) (fun s hs => by
    have hp := sets_pl N s hs
    have e1 := bad2 (n + 4) (pd_t s) (m := m) (by omega) (hp.b1000 (by omega))
    have rs : res (tI s) = M.pure (tI s) := rfl
    generalize optD (badN m s) = o at *
    generalize tI s = T at *
    unfold F at *
    cases q : o.isNon with
    | true => simp -implicitDefEqProofs [lcTurn, wipeE, Tz.slots, bindT, DL.get, rs, e1, q]
    | false => simp -implicitDefEqProofs [lcTurn, wipeE, Tz.slots, bindT, DL.get, rs, e1, q])
  have lc2 := lcMapT (tg := .nm 3) (C := F (n + 5)) (K := kcOf ks) (c := .nil) (e := .bf .len (.cons (.var 3) .nil)) (ρ := [some (.int (N : Int)), some (.int m), some (.lst ((goodN N m).map tI)), none, none, none, none]) (g := fun s => D.int (s.length : Int)) (goodN N m) (fun s hs => by
    have rs : res (tI s) = M.pure (tI s) := rfl
    have h1 : seqA (tI s) = M.pure (s.map D.int) := rfl
    have h2 : (s.map D.int).length = s.length := List.length_map ..
    generalize s.map D.int = sD at *
    generalize tI s = T at *
    generalize (goodN N m).map tI = GD at *
    unfold F at *
    simp -implicitDefEqProofs [lcTurn, wipeE, Tz.slots, bindT, DL.get, rs, h1, h2])
  have lc3 := lcFilT (tg := .nm 3) (C := F (n + 5)) (K := kcOf ks) (c := .cmp .eq (.bf .len (.cons (.var 3) .nil)) (.var 4)) (e := .var 3) (ρ := [some (.int (N : Int)), some (.int m), some (.lst ((goodN N m).map tI)), none, some (.int (mostN N m)), none, none]) (P := fun s => ((s.length : Int) == mostN N m)) (goodN N m) (fun s hs => by
    have rs : res (tI s) = M.pure (tI s) := rfl
    have h1 : seqA (tI s) = M.pure (s.map D.int) := rfl
    have h2 : (s.map D.int).length = s.length := List.length_map ..
    have h3 := eq_int (s.length : Int) (mostN N m)
    generalize s.map D.int = sD at *
    generalize tI s = T at *
    generalize (goodN N m).map tI = GD at *
    unfold F at *
    by_cases c : (s.length : Int) = mostN N m
    · rw [show ((s.length : Int) == mostN N m) = true from by rw [c]; simp] at h3
      simp -implicitDefEqProofs [lcTurn, wipeE, Tz.slots, bindT, DL.get, rs, h1, h2, h3, c]
    · rw [show ((s.length : Int) == mostN N m) = false from beq_eq_false_iff_ne.mpr c] at h3
      simp -implicitDefEqProofs [lcTurn, wipeE, Tz.slots, bindT, DL.get, rs, h1, h2, h3, c])
  have mx : bfop .max1 [.lst ((goodN N m).map fun s => D.int (s.length : Int))] = M.pure (.int (mostN N m)) := by
    show M.bind (M.opt (intsOf ((goodN N m).map fun s => D.int (s.length : Int)))) (fun is => M.bind (M.opt is.max?) fun i => M.pure (D.int i)) = _
    rw [show ((goodN N m).map fun s => D.int (s.length : Int)) = ((goodN N m).map fun s => (s.length : Int)).map D.int from by rw [List.map_map]; rfl, intsOf_map]
    show M.bind (M.opt ((goodN N m).map fun s => (s.length : Int)).max?) _ = _
    rw [h.f1]
    rfl
  have mn : bfop .minD [.lst (((goodN N m).filter fun s => ((s.length : Int) == mostN N m)).map tI)] = M.pure (tI (firstN N m)) := by
    show M.bind (M.pure (((goodN N m).filter fun s => ((s.length : Int) == mostN N m)).map tI)) (fun xs => M.opt (bestOf (fun y a => PySem.W.dataLt y a) xs)) = _
    rw [pb, h.f2]
    rfl
  have L := like_at (Kc := kcOf ks) lk 3 (n + 1) (x := .lst [.int (mostN N m), tI (firstN N m)]) ⟨by show 2 ≤ 8000; omega, fun x hx => by
    simp only [List.mem_cons, List.not_mem_nil, or_false] at hx
    rcases hx with rfl | rfl
    · exact trivial
    · exact plT 0 (firstN N m) (by have := (first_pl (N := (N : Int)) (m := m)).len (by omega); omega)⟩
  have hgo : (setsN N).filter (fun s => (optD (badN m s)).isNon) = goodN N m := rfl
  rw [hgo] at lc1
  have a2 : F (n + 5) 22 [.int (N : Int), .int m] = M.pure (.int (mostN N m)) := a2
  unfold F at *
  rw [call_at (d := d28) rfl rfl _ rfl, run_eq, eb28]
  have hNn : d28.N.length = 7 := rfl
  rw [hNn]
  have rf : res (tI (firstN N m)) = M.pure (tI (firstN N m)) := rfl
  generalize ((goodN N m).filter fun s => ((s.length : Int) == mostN N m)).map tI = FD at *
  generalize ((goodN N m).map fun s => D.int (s.length : Int)) = LD at *
  generalize (goodN N m).map tI = GD at *
  generalize (setsN N).map tI = SD at *
  generalize tI (firstN N m) = FT at *
  generalize mostN N m = mo at *
  unfold s0 s1 s2 s3 s4 s5 lg28 lm28 lf28
  generalize lb28 = B at *
  have c1 : ∀ (z : Sz), evS (tabF (kcOf ks) tx (n + 5)) (kcOf ks) z = evS (tabF (kcOf ks) tx (n + 5)) (kcOf ks) z := fun _ => rfl
  simp -implicitDefEqProofs [-bf_max1, -bf_minD, evS, DL.get, setE, a1, hl1, lc1, hl2, lc2, mx, lc3, mn, a2, a3, rf, L, lp]
end Row
namespace Row
open PySem DL
def lc30 : Ez := (.lc (.nm 6) (.var 2) (.cmp .ne (.idx (.var 5) (.var 6)) (.idx (.var 4) (.var 6))) (.var 6))
def lb30 : Sz := (.cons (.set 5 (.call 13 (.cons (.var 3) (.cons (.var 1) (.cons (.var 2) (.cons (.var 4) .nil)))))) (.cons (.ite (.cmp .ne lc30 (.lst .nil)) (.cons (.ret (.bl false)) .nil) .nil) .nil))
theorem eb30 : d30.body = (.cons (.for (.nm 4) (.call 31 (.cons (.var 0) (.cons (.var 3) .nil))) lb30) (.cons (.ret (.bl true)) .nil)) := rfl
def lq1 : Sz := (.cons (.tset (.cons (.nm 3) (.cons (.nm 4) (.cons (.nm 5) .nil))) (.tup (.cons (.bin .add (.int 1) (.call 23 (.cons (.var 1) (.cons (.int 30) .nil)))) (.cons (.call 27 (.cons (.var 1) (.cons (.lst (.cons (.int 0) (.cons (.int 1) (.cons (.int 2) (.cons (.int 3) (.cons (.call 23 (.cons (.var 1) (.cons (.int 31) .nil))) .nil)))))) .nil))) (.cons (.bin .add (.int 2) (.call 23 (.cons (.var 1) (.cons (.int 9) .nil)))) .nil))))) (.cons (.set 6 (.mkl (.lst .nil))) (.cons (.for (.nm 7) (.range1 (.var 3)) (.cons (.ite (.bool .And (.cons (.cmp .eq (.call 23 (.cons (.var 1) (.cons (.int 2) .nil))) (.int 0)) (.cons (.cmp .isN (.call 2 (.cons (.var 4) (.cons (.bin .add (.var 6) (.lst (.cons (.var 7) .nil))) .nil))) .non) .nil))) (.cons (.app (.var 6) (.var 7)) .nil) .nil) .nil)) (.cons (.set 8 (.bf .tuple (.cons (.lc (.nm 7) (.range1 (.var 3)) (.cmp .eq (.call 23 (.cons (.var 1) (.cons (.int 2) .nil))) (.int 0)) (.var 7)) .nil))) (.cons (.set 9 (.call 2 (.cons (.var 4) (.cons (.var 8) .nil)))) (.cons (.ite (.not (.call 11 (.cons (.lst (.cons (.call 3 (.cons (.var 3) (.cons (.var 4) (.cons (.var 8) .nil)))) (.cons (.call 10 (.cons (.var 3) (.cons (.var 4) (.cons (.var 8) .nil)))) .nil))) (.cons (.lst (.cons (.cmp .isN (.var 9) .non) (.cons (.var 9) .nil))) .nil)))) (.cons (.ret (.bl false)) .nil) .nil) (.cons (.ite (.not (.call 24 (.cons (.var 1) (.cons (.var 5) (.cons (.var 4) (.cons (.bf .tuple (.cons (.var 6) .nil)) (.cons (.bf .tuple (.cons (.lc (.nm 7) (.range1 (.var 3)) .nil (.call 23 (.cons (.var 1) (.cons (.var 5) .nil)))) .nil)) .nil))))))) (.cons (.ret (.bl false)) .nil) .nil) .nil)))))))
def lq8 : Sz := (.cons (.ite (.not (.call 28 (.cons (.var 3) (.cons (.var 4) .nil)))) (.cons (.ret (.bl false)) .nil) .nil) .nil)
def it8 : Ez := (.tup (.cons (.tup (.cons (.int 1) (.cons (.int 0) .nil))) (.cons (.tup (.cons (.int 1) (.cons (.int 5) .nil))) (.cons (.tup (.cons (.int 2) (.cons (.int 1) .nil))) (.cons (.tup (.cons (.int 4) (.cons (.int 1) .nil))) (.cons (.tup (.cons (.int 5) (.cons (.int 2) .nil))) (.cons (.tup (.cons (.int 6) (.cons (.int 1) .nil))) (.cons (.tup (.cons (.int 6) (.cons (.int 2) .nil))) (.cons (.tup (.cons (.int 6) (.cons (.int 30) .nil))) (.cons (.tup (.cons (.int 3) (.cons (.int 0) .nil))) .nil))))))))))
def q0 : Sz := (.set 1 (.call 1 (.cons (.var 0) .nil)))
def q1 : Sz := (.for (.nm 2) (.range1 (.int 5)) lq1)
def q2 : Sz := (.set 10 (.lst (.cons (.call 3 (.cons (.int 5) (.cons (.int 1) (.cons (.tup (.cons (.int 1) (.cons (.int 3) .nil))) .nil)))) (.cons (.call 3 (.cons (.int 5) (.cons (.int 1) (.cons (.tup (.cons (.int 1) (.cons (.int 2) .nil))) .nil)))) (.cons (.call 10 (.cons (.int 5) (.cons (.int 1) (.cons (.tup (.cons (.int 1) (.cons (.int 2) .nil))) .nil)))) (.cons (.call 3 (.cons (.int 5) (.cons (.int 2) (.cons (.tup (.cons (.int 1) (.cons (.int 2) .nil))) .nil)))) .nil))))))
def q3 : Sz := (.set 10 (.bin .add (.var 10) (.lst (.cons (.call 22 (.cons (.int 5) (.cons (.int 1) .nil))) (.cons (.call 22 (.cons (.int 4) (.cons (.int 2) .nil))) (.cons (.call 22 (.cons (.int 5) (.cons (.int 4) .nil))) (.cons (.call 22 (.cons (.int 3) (.cons (.int 0) .nil))) (.cons (.call 21 (.cons (.int 5) (.cons (.int 2) .nil))) .nil))))))))
def q4 : Sz := (.ite (.not (.call 11 (.cons (.var 10) (.cons (.lst (.cons (.bl true) (.cons (.bl false) (.cons (.int 2) (.cons (.bl true) (.cons (.int 2) (.cons (.int 2) (.cons (.int 4) (.cons (.int 0) (.cons (.tup (.cons (.int 1) (.cons (.int 2) (.cons (.int 4) .nil)))) .nil)))))))))) .nil)))) (.cons (.ret (.bl false)) .nil) .nil)
def q5 : Sz := (.set 10 (.lst (.cons (.call 13 (.cons (.int 3) (.cons (.int 2) (.cons (.tup (.cons (.int 1) (.cons (.int 2) .nil))) (.cons (.tup (.cons (.int 2) (.cons (.int 1) (.cons (.int 2) (.cons (.int 0) .nil))))) .nil))))) (.cons (.call 19 (.cons (.int 3) (.cons (.int 2) (.cons (.tup (.cons (.int 1) (.cons (.int 2) .nil))) (.cons (.tup (.cons (.int 0) .nil)) (.cons (.tup (.cons (.int 2) (.cons (.int 0) .nil))) .nil)))))) (.cons (.call 19 (.cons (.int 3) (.cons (.int 2) (.cons (.tup (.cons (.int 1) (.cons (.int 2) .nil))) (.cons (.tup .nil) (.cons (.tup (.cons (.int 1) (.cons (.int 2) .nil))) .nil)))))) .nil)))))
def q6 : Sz := (.set 10 (.bin .add (.var 10) (.lst (.cons (.call 19 (.cons (.int 3) (.cons (.int 2) (.cons (.tup (.cons (.int 1) (.cons (.int 2) .nil))) (.cons (.tup (.cons (.int 0) (.cons (.int 1) .nil))) (.cons (.tup (.cons (.int 0) .nil)) .nil)))))) (.cons (.call 19 (.cons (.int 2) (.cons (.int 0) (.cons (.tup .nil) (.cons (.tup .nil) (.cons (.tup .nil) .nil)))))) (.cons (.call 13 (.cons (.int 10) (.cons (.int 1) (.cons (.tup (.cons (.int 1) .nil)) (.cons (.tup (.cons (.int 0) (.cons (.int 9) .nil))) .nil))))) .nil))))))
def q7 : Sz := (.ite (.not (.call 11 (.cons (.var 10) (.cons (.lst (.cons (.tup (.cons (.int 0) (.cons (.int 1) (.cons (.int 2) (.cons (.int 0) .nil))))) (.cons (.int 1) (.cons (.int 0) (.cons (.int 2) (.cons (.int 0) (.cons (.tup (.cons (.int 9) (.cons (.int 9) .nil))) .nil))))))) .nil)))) (.cons (.ret (.bl false)) .nil) .nil)
def q8 : Sz := (.for (.tp (.cons (.nm 3) (.cons (.nm 4) .nil))) it8 lq8)
def q9 : Sz := (.ite (.bool .Or (.cons (.not (.call 30 (.cons (.int 5) (.cons (.int 2) (.cons (.tup (.cons (.int 1) (.cons (.int 2) (.cons (.int 4) .nil)))) (.cons (.int 2) .nil)))))) (.cons (.not (.call 30 (.cons (.int 4) (.cons (.int 1) (.cons (.tup (.cons (.int 1) (.cons (.int 3) .nil))) (.cons (.int 3) .nil)))))) (.cons (.not (.call 30 (.cons (.int 4) (.cons (.int 3) (.cons (.tup (.cons (.int 1) (.cons (.int 2) (.cons (.int 3) .nil)))) (.cons (.int 3) .nil)))))) .nil)))) (.cons (.ret (.bl false)) .nil) .nil)
def q10 : Sz := (.ret (.bool .And (.cons (.call 20 (.cons (.var 1) .nil)) (.cons (.call 26 (.cons (.var 1) .nil)) .nil))))
theorem ebq : d0.body = (.cons q0 (.cons q1 (.cons q2 (.cons q3 (.cons q4 (.cons q5 (.cons q6 (.cons q7 (.cons q8 (.cons q9 (.cons q10 .nil))))))))))) := rfl
theorem x10 : Sx 1 0 := ⟨by decide, by decide, sets1, by decide, by decide +kernel, by kernel_rfl⟩
theorem x15 : Sx 1 5 := ⟨by decide, by decide, sets1, by decide, by decide +kernel, by kernel_rfl⟩
theorem x21 : Sx 2 1 := ⟨by decide, by decide, sets2, by decide, by decide +kernel, by kernel_rfl⟩
theorem x41 : Sx 4 1 := ⟨by decide, by decide, sets4, by decide +kernel, by decide +kernel, by kernel_rfl⟩
theorem x52 : Sx 5 2 := ⟨by decide, by decide, sets5, by decide +kernel, by decide +kernel, by kernel_rfl⟩
theorem x61 : Sx 6 1 := ⟨by decide, by decide, sets6, by decide +kernel, by decide +kernel, by kernel_rfl⟩
theorem x62 : Sx 6 2 := ⟨by decide, by decide, sets6, by decide +kernel, by decide +kernel, by kernel_rfl⟩
theorem x630 : Sx 6 30 := ⟨by decide, by decide, sets6, by decide +kernel, by decide +kernel, by kernel_rfl⟩
theorem x30 : Sx 3 0 := ⟨by decide, by decide, sets3, by decide, by decide +kernel, by kernel_rfl⟩
def casesN (k : Nat) : Nat → List (List Int)
  | 0 => [[]]
  | p + 1 => (casesN k p).flatMap fun c => (List.range k).map fun (h : Nat) => c ++ [(h : Int)]
theorem cases_ok (k : Nat) : ∀ (p : Nat), ∀ c ∈ casesN k p, c.length = p ∧ ∀ x ∈ c, 0 ≤ x ∧ x < (k : Int)
  | 0, c, h => by
    rw [List.mem_singleton.mp h]
    exact ⟨rfl, fun x hx => nomatch hx⟩
  | p + 1, c, h => by
    obtain ⟨c', h1, h2⟩ := List.mem_flatMap.mp h
    obtain ⟨i, h3, rfl⟩ := List.mem_map.mp h2
    obtain ⟨h4, h5⟩ := cases_ok k p c' h1
    refine ⟨by simp [h4], fun x hx => ?_⟩
    rcases List.mem_append.mp hx with hx | hx
    · exact h5 x hx
    · rw [List.mem_singleton.mp hx]
      have := List.mem_range.mp h3
      omega
theorem cases_call (n : Nat) {N k : Nat} (e : ∀ C, run C (kcOf ks) d31.N.length d31.body [.int (N : Int), .int (k : Int)] = M.pure (.lst ((casesN k N).map tI))) : F (n + 1) 31 [.int (N : Int), .int (k : Int)] = M.pure (.lst ((casesN k N).map tI)) := by
  unfold F
  rw [call_at (d := d31) rfl rfl _ rfl, e]
  simp
theorem cases52 (C : Nat → List D → M D) : run C (kcOf ks) d31.N.length d31.body [.int ((5 : Nat) : Int), .int ((2 : Nat) : Int)] = M.pure (.lst ((casesN 2 5).map tI)) := by kernel_rfl
theorem cases43 (C : Nat → List D → M D) : run C (kcOf ks) d31.N.length d31.body [.int ((4 : Nat) : Int), .int ((3 : Nat) : Int)] = M.pure (.lst ((casesN 3 4).map tI)) := by kernel_rfl
theorem turn30 (n : Nat) {N k m : Nat} {ps hats : List Int} (o : Ok k m ps hats) (hN : hats.length = N) (x y : Option D) : M.bind (M.opt (bindT (.nm 4) (tI hats) [some (.int (N : Int)), some (.int (m : Int)), some (tI ps), some (.int (k : Int)), x, y, none])) (evS (F (n + 4)) (kcOf ks) lb30) = M.pure (.nx [some (.int (N : Int)), some (.int (m : Int)), some (tI ps), some (.int (k : Int)), some (tI hats), some (tI (CN k m ps hats hats.length)), none]) := by
  have e1 := line_calls n o
  have hpl := o.pl.len (by have := o.hN; omega)
  have hlp : lenOk (ps.map D.int) = M.pure (ps.map D.int) := lenOk_le (by rw [List.length_map]; omega)
  have st : still (tI ps) = M.pure (ps.map D.int) := rfl
  have rt : res (tI ps) = M.pure (tI ps) := rfl
  have rh : res (tI hats) = M.pure (tI hats) := rfl
  have rc : res (tI (CN k m ps hats hats.length)) = M.pure (tI (CN k m ps hats hats.length)) := rfl
  have hlc := lcFil (tg := .nm 6) (C := F (n + 4)) (K := kcOf ks) (c := .cmp .ne (.idx (.var 5) (.var 6)) (.idx (.var 4) (.var 6))) (e := .var 6) (ρ := [some (.int (N : Int)), some (.int (m : Int)), some (tI ps), some (.int (k : Int)), some (tI hats), some (tI (CN k m ps hats hats.length)), none]) (P := fun _ => false) ps (fun p hp => by
    obtain ⟨b1, b2⟩ := o.pl.bd p hp
    have hp' : ((p.toNat : Nat) : Int) = p := Int.toNat_of_nonneg b1
    have hs := sure_ o.hk.1 o.hb o.hc p.toNat (by rw [hp']; exact hp) (by omega)
    have a1 : M.opt (L2.atI ((CN k m ps hats hats.length).map D.int) p) = M.pure (.int (hats.getD p.toNat 0)) := by
      rw [← hp', atI_int (by rw [CN_len]; omega), List.getD_eq_getElem?_getD, CN_get k m ps hats (by omega)]
      show M.pure (D.int (callN _ _ _ _)) = _
      rw [hs, hp']
    have a2 : M.opt (L2.atI (hats.map D.int) p) = M.pure (.int (hats.getD p.toNat 0)) := by
      rw [← hp', atI_int (by omega), hp']
      rfl
    have s1 : seqA (tI (CN k m ps hats hats.length)) = M.pure ((CN k m ps hats hats.length).map D.int) := rfl
    have s2 : seqA (tI hats) = M.pure (hats.map D.int) := rfl
    have ne := ne_int (hats.getD p.toNat 0) (hats.getD p.toNat 0)
    rw [show (hats.getD p.toNat 0 == hats.getD p.toNat 0) = true from by simp] at ne
    generalize hats.getD p.toNat 0 = V at *
    generalize (CN k m ps hats hats.length).map D.int = CD at *
    generalize tI (CN k m ps hats hats.length) = CC at *
    generalize hats.map D.int = HD at *
    generalize tI hats = HT at *
    generalize tI ps = T at *
    unfold F at *
    simp -implicitDefEqProofs [lcTurn, wipeE, Tz.slots, bindT, DL.get, rc, rh, s1, s2, a1, a2, ne])
  rw [show ps.filter (fun _ => false) = [] from List.filter_eq_nil_iff.mpr fun _ _ => Bool.false_ne_true] at hlc
  have ne : cmpop .ne (.lst ([].map D.int)) (.lst []) = M.pure (.bl false) := rfl
  have hnil : ([] : List Int).map D.int = [] := rfl
  rw [hnil] at hlc ne
  generalize tI (CN k m ps hats hats.length) = CC at *
  generalize tI hats = HT at *
  generalize ps.map D.int = pD at *
  generalize tI ps = T at *
  unfold lb30 lc30
  unfold F at *
  simp -implicitDefEqProofs [bindT, evS, DL.get, setE, rt, rh, st, e1, hlp, hlc, ne]
theorem loop30 (n : Nat) {N k m : Nat} {ps : List Int} : ∀ (xs : List (List Int)) (x y : Option D), (∀ hats ∈ xs, Ok k m ps hats ∧ hats.length = N) → ∃ x' y', forGo (.nm 4) (evS (F (n + 4)) (kcOf ks) lb30) (xs.map tI) [some (.int (N : Int)), some (.int (m : Int)), some (tI ps), some (.int (k : Int)), x, y, none] = M.pure (.nx [some (.int (N : Int)), some (.int (m : Int)), some (tI ps), some (.int (k : Int)), x', y', none])
  | [], x, y, _ => ⟨x, y, rfl⟩
  | hats :: xs, x, y, h => by
    obtain ⟨o, hN⟩ := h hats List.mem_cons_self
    obtain ⟨x', y', ih⟩ := loop30 n xs (some (tI hats)) (some (tI (CN k m ps hats hats.length))) fun r hr => h r (List.mem_cons_of_mem _ hr)
    refine ⟨x', y', ?_⟩
    rw [List.map_cons, forGo_cons (turn30 n o hN x y)]
    exact ih
theorem all_right (n : Nat) {N k m : Nat} {ps : List Int} (e : ∀ C, run C (kcOf ks) d31.N.length d31.body [.int (N : Int), .int (k : Int)] = M.pure (.lst ((casesN k N).map tI))) (hk : 2 ≤ k ∧ k ≤ 10) (hm : m ≤ 30) (hN : 1 ≤ N ∧ N ≤ 30) (pl : Pl N ps) (hb : badN m ps = none) : F (n + 5) 30 [.int (N : Int), .int (m : Int), tI ps, .int (k : Int)] = M.pure (.bl true) := by
  have a1 := cases_call (n + 3) e
  obtain ⟨x', y', lp⟩ := loop30 n (N := N) (k := k) (m := m) (ps := ps) (casesN k N) none none (fun hats hh => by
    obtain ⟨h1, h2⟩ := cases_ok k N hats hh
    exact ⟨⟨by omega, hm, by rw [h1]; exact pl, hb, by omega, h2⟩, h1⟩)
  unfold F at *
  rw [call_at (d := d30) rfl rfl _ rfl, run_eq, eb30]
  have hNn : d30.N.length = 7 := rfl
  rw [hNn]
  generalize (casesN k N).map tI = CS at *
  generalize tI ps = T at *
  generalize lb30 = B at *
  simp -implicitDefEqProofs [evS, DL.get, a1, lp]
end Row
namespace Row
open PySem DL
theorem l3e (a b c : D) : lenOk [a, b, c] = M.pure [a, b, c] := lenOk_le (by show 3 ≤ 8000; omega)
theorem l4 (a b c d : D) : lenOk [a, b, c, d] = M.pure [a, b, c, d] := lenOk_le (by show 4 ≤ 8000; omega)
theorem l5 (a b c d e : D) : lenOk [a, b, c, d, e] = M.pure [a, b, c, d, e] := lenOk_le (by show 5 ≤ 8000; omega)
theorem l9 (a b c d e f g h i : D) : lenOk [a, b, c, d, e, f, g, h, i] = M.pure [a, b, c, d, e, f, g, h, i] := lenOk_le (by show 9 ≤ 8000; omega)
theorem pl13 : Pl 5 [1, 3] := ⟨by decide, by decide⟩
theorem pl12 : Pl 5 [1, 2] := ⟨by decide, by decide⟩
theorem told1 (n : Nat) (rest : Sz) (w0 w1 w2 w3 w4 w5 w6 w7 w8 w9 w10 : Option D) : ∃ d, evS (F (n + 8)) (kcOf ks) (.cons q2 (.cons q3 (.cons q4 rest))) [w0, w1, w2, w3, w4, w5, w6, w7, w8, w9, w10] = evS (F (n + 8)) (kcOf ks) rest [w0, w1, w2, w3, w4, w5, w6, w7, w8, w9, d] := by
  have a1 := can_be_sure (n + 4) (N := 5) (m := 1) pl13 (by decide) (by decide)
  have a2 := can_be_sure (n + 4) (N := 5) (m := 1) pl12 (by decide) (by decide)
  have a3 := unsure (n + 4) (N := 5) (m := 1) pl12 (by decide) (by decide)
  have a4 := can_be_sure (n + 4) (N := 5) (m := 2) pl12 (by decide) (by decide)
  rw [show badN 1 [1, 3] = none from by decide +kernel] at a1
  rw [show badN 1 [1, 2] = some 2 from by decide +kernel] at a2 a3
  rw [show badN 2 [1, 2] = none from by decide +kernel] at a4
  have a1 : F (n + 8) 3 [.int 5, .int 1, .tup [.int 1, .int 3]] = M.pure (.bl true) := a1
  have a2 : F (n + 8) 3 [.int 5, .int 1, .tup [.int 1, .int 2]] = M.pure (.bl false) := a2
  have a3 : F (n + 8) 10 [.int 5, .int 1, .tup [.int 1, .int 2]] = M.pure (.int 2) := a3
  have a4 : F (n + 8) 3 [.int 5, .int 2, .tup [.int 1, .int 2]] = M.pure (.bl true) := a4
  have b1 := most_sure (n + 5) (N := 5) (m := 1) (by decide) (by decide)
  have b2 := most_sure (n + 5) (N := 4) (m := 2) (by decide) (by decide)
  have b3 := most_sure (n + 5) (N := 5) (m := 4) (by decide) (by decide)
  have b4 := most_sure (n + 5) (N := 3) (m := 0) (by decide) (by decide)
  have b5 := first_sure (n + 5) (N := 5) (m := 2) (by decide) (by decide)
  rw [show (5 : Int) - (5 + 1 : Int).fdiv (1 + 1) = 2 from by decide +kernel] at b1
  rw [show (4 : Int) - (4 + 2 : Int).fdiv (2 + 1) = 2 from by decide +kernel] at b2
  rw [show (5 : Int) - (5 + 4 : Int).fdiv (4 + 1) = 4 from by decide +kernel] at b3
  rw [show (3 : Int) - (3 + 0 : Int).fdiv (0 + 1) = 0 from by decide +kernel] at b4
  rw [show firstN 5 2 = [1, 2, 4] from by decide +kernel] at b5
  have b5 : F (n + 8) 21 [.int 5, .int 2] = M.pure (.tup [.int 1, .int 2, .int 4]) := b5
  have ad : binop .add (.lst [.bl true, .bl false, .int 2, .bl true]) (.lst [.int 2, .int 2, .int 4, .int 0, .tup [.int 1, .int 2, .int 4]]) = M.pure (.lst [.bl true, .bl false, .int 2, .bl true, .int 2, .int 2, .int 4, .int 0, .tup [.int 1, .int 2, .int 4]]) := add_lst (by decide)
  have L := like_at (Kc := kcOf ks) lk 3 (n + 4) (x := .lst [.bl true, .bl false, .int 2, .bl true, .int 2, .int 2, .int 4, .int 0, .tup [.int 1, .int 2, .int 4]]) ⟨by decide, fun x hx => by
    simp only [List.mem_cons, List.not_mem_nil, or_false] at hx
    rcases hx with rfl | rfl | rfl | rfl | rfl | rfl | rfl | rfl | rfl
    · exact trivial
    · exact trivial
    · exact trivial
    · exact trivial
    · exact trivial
    · exact trivial
    · exact trivial
    · exact trivial
    · exact plT 0 [1, 2, 4] (by decide)⟩
  have e4 := l4
  have e5 := l5
  have e9 := l9
  refine ⟨some (.lst [.bl true, .bl false, .int 2, .bl true, .int 2, .int 2, .int 4, .int 0, .tup [.int 1, .int 2, .int 4]]), ?_⟩
  unfold F at *
  simp -implicitDefEqProofs [q2, q3, q4, evS, DL.get, setE, a1, a2, a3, a4, b1, b2, b3, b4, b5, e4, e5, e9, l3e, ad, L]
theorem ok1 : Ok 3 2 [1, 2] [2, 1, 2, 0] := ⟨by decide, by decide, ⟨by decide, by decide⟩, by decide +kernel, by decide, by decide⟩
theorem ok2 : Ok 3 2 [1, 2] [0, 0, 2, 0] := ⟨by decide, by decide, ⟨by decide, by decide⟩, by decide +kernel, by decide, by decide⟩
theorem ok3 : Ok 3 2 [1, 2] [0, 1, 2] := ⟨by decide, by decide, ⟨by decide, by decide⟩, by decide +kernel, by decide, by decide⟩
theorem ok4 : Ok 3 2 [1, 2] [0, 0, 0, 0] := ⟨by decide, by decide, ⟨by decide, by decide⟩, by decide +kernel, by decide, by decide⟩
theorem ok5 : Ok 2 0 [] [0] := ⟨by decide, by decide, ⟨by decide, by decide⟩, by decide +kernel, by decide, by decide⟩
theorem ok6 : Ok 10 1 [1] [0, 9] := ⟨by decide, by decide, ⟨by decide, by decide⟩, by decide +kernel, by decide, by decide⟩
theorem told2 (n : Nat) (rest : Sz) (w0 w1 w2 w3 w4 w5 w6 w7 w8 w9 w10 : Option D) : ∃ d, evS (F (n + 8)) (kcOf ks) (.cons q5 (.cons q6 (.cons q7 rest))) [w0, w1, w2, w3, w4, w5, w6, w7, w8, w9, w10] = evS (F (n + 8)) (kcOf ks) rest [w0, w1, w2, w3, w4, w5, w6, w7, w8, w9, d] := by
  have a1 := line_calls (n + 4) ok1
  rw [show CN 3 2 [1, 2] [2, 1, 2, 0] ([2, 1, 2, 0] : List Int).length = [0, 1, 2, 0] from by decide +kernel] at a1
  have a2 := line_call (n + 4) ok2 (a := 1) (heard := [0]) (by decide) rfl (by decide)
  rw [show callN 3 [1, 2] [0] (seen 2 [0, 0, 2, 0] 1) = 1 from by decide +kernel] at a2
  have a3 := line_call (n + 4) ok3 (a := 0) (heard := []) (by decide) rfl (by decide)
  rw [show callN 3 [1, 2] [] (seen 2 [0, 1, 2] 0) = 0 from by decide +kernel] at a3
  have a4 := line_call (n + 4) ok4 (a := 2) (heard := [0, 1]) (by decide) rfl (by decide)
  rw [show callN 3 [1, 2] [0, 1] (seen 2 [0, 0, 0, 0] 2) = 2 from by decide +kernel] at a4
  have a5 := line_call (n + 4) ok5 (a := 0) (heard := []) (by decide) rfl (by decide)
  rw [show callN 2 [] [] (seen 0 [0] 0) = 0 from by decide +kernel] at a5
  have a6 := line_calls (n + 4) ok6
  rw [show CN 10 1 [1] [0, 9] ([0, 9] : List Int).length = [9, 9] from by decide +kernel] at a6
  have a1 : F (n + 8) 13 [.int 3, .int 2, .tup [.int 1, .int 2], .tup [.int 2, .int 1, .int 2, .int 0]] = M.pure (.tup [.int 0, .int 1, .int 2, .int 0]) := a1
  have a2 : F (n + 8) 19 [.int 3, .int 2, .tup [.int 1, .int 2], .tup [.int 0], .tup [.int 2, .int 0]] = M.pure (.int 1) := a2
  have a3 : F (n + 8) 19 [.int 3, .int 2, .tup [.int 1, .int 2], .tup [], .tup [.int 1, .int 2]] = M.pure (.int 0) := a3
  have a4 : F (n + 8) 19 [.int 3, .int 2, .tup [.int 1, .int 2], .tup [.int 0, .int 1], .tup [.int 0]] = M.pure (.int 2) := a4
  have a5 : F (n + 8) 19 [.int 2, .int 0, .tup [], .tup [], .tup []] = M.pure (.int 0) := a5
  have a6 : F (n + 8) 13 [.int 10, .int 1, .tup [.int 1], .tup [.int 0, .int 9]] = M.pure (.tup [.int 9, .int 9]) := a6
  have ad : binop .add (.lst [.tup [.int 0, .int 1, .int 2, .int 0], .int 1, .int 0]) (.lst [.int 2, .int 0, .tup [.int 9, .int 9]]) = M.pure (.lst [.tup [.int 0, .int 1, .int 2, .int 0], .int 1, .int 0, .int 2, .int 0, .tup [.int 9, .int 9]]) := add_lst (by decide)
  have L := like_at (Kc := kcOf ks) lk 3 (n + 4) (x := .lst [.tup [.int 0, .int 1, .int 2, .int 0], .int 1, .int 0, .int 2, .int 0, .tup [.int 9, .int 9]]) ⟨by decide, fun x hx => by
    simp only [List.mem_cons, List.not_mem_nil, or_false] at hx
    rcases hx with rfl | rfl | rfl | rfl | rfl | rfl
    · exact plT 0 [0, 1, 2, 0] (by decide)
    · exact trivial
    · exact trivial
    · exact trivial
    · exact trivial
    · exact plT 0 [9, 9] (by decide)⟩
  have e4 := l4
  have e6 := l6
  refine ⟨some (.lst [.tup [.int 0, .int 1, .int 2, .int 0], .int 1, .int 0, .int 2, .int 0, .tup [.int 9, .int 9]]), ?_⟩
  unfold F at *
  simp -implicitDefEqProofs [q5, q6, q7, evS, DL.get, setE, a1, a2, a3, a4, a5, a6, e4, e6, l3e, ad, L]
def prs8 : List D := [.tup [.int 1, .int 0], .tup [.int 1, .int 5], .tup [.int 2, .int 1], .tup [.int 4, .int 1], .tup [.int 5, .int 2], .tup [.int 6, .int 1], .tup [.int 6, .int 2], .tup [.int 6, .int 30], .tup [.int 3, .int 0]]
theorem turn8 (n : Nat) {N : Nat} {m : Int} (h : Sx N m) (w0 w1 w2 x y w5 w6 w7 w8 w9 w10 : Option D) : M.bind (M.opt (bindT (.tp (.cons (.nm 3) (.cons (.nm 4) .nil))) (.tup [.int (N : Int), .int m]) [w0, w1, w2, x, y, w5, w6, w7, w8, w9, w10])) (evS (F (n + 8)) (kcOf ks) lq8) = M.pure (.nx [w0, w1, w2, some (.int (N : Int)), some (.int m), w5, w6, w7, w8, w9, w10]) := by
  have e := sets_right (n + 2) h
  unfold F at *
  simp -implicitDefEqProofs [bindT, bindTs, lq8, evS, DL.get, e]
theorem told3 (n : Nat) (rest : Sz) (w0 w1 w2 w3 w4 w5 w6 w7 w8 w9 w10 : Option D) : ∃ x y, evS (F (n + 8)) (kcOf ks) (.cons q8 (.cons q9 rest)) [w0, w1, w2, w3, w4, w5, w6, w7, w8, w9, w10] = evS (F (n + 8)) (kcOf ks) rest [w0, w1, w2, x, y, w5, w6, w7, w8, w9, w10] := by
  have i8 : ∀ ρ, (ev (F (n + 8)) (kcOf ks) it8).i ρ = M.pure prs8 := fun ρ => by
    have e9 := l9
    unfold F it8 prs8
    simp -implicitDefEqProofs [e9]
  have lp : forGo (.tp (.cons (.nm 3) (.cons (.nm 4) .nil))) (evS (F (n + 8)) (kcOf ks) lq8) prs8 [w0, w1, w2, w3, w4, w5, w6, w7, w8, w9, w10] = M.pure (.nx [w0, w1, w2, some (.int 3), some (.int 0), w5, w6, w7, w8, w9, w10]) := by
    unfold prs8
    refine Eq.trans (forGo_cons (turn8 n x10 w0 w1 w2 w3 w4 w5 w6 w7 w8 w9 w10)) ?_
    refine Eq.trans (forGo_cons (turn8 n x15 w0 w1 w2 _ _ w5 w6 w7 w8 w9 w10)) ?_
    refine Eq.trans (forGo_cons (turn8 n x21 w0 w1 w2 _ _ w5 w6 w7 w8 w9 w10)) ?_
    refine Eq.trans (forGo_cons (turn8 n x41 w0 w1 w2 _ _ w5 w6 w7 w8 w9 w10)) ?_
    refine Eq.trans (forGo_cons (turn8 n x52 w0 w1 w2 _ _ w5 w6 w7 w8 w9 w10)) ?_
    refine Eq.trans (forGo_cons (turn8 n x61 w0 w1 w2 _ _ w5 w6 w7 w8 w9 w10)) ?_
    refine Eq.trans (forGo_cons (turn8 n x62 w0 w1 w2 _ _ w5 w6 w7 w8 w9 w10)) ?_
    refine Eq.trans (forGo_cons (turn8 n x630 w0 w1 w2 _ _ w5 w6 w7 w8 w9 w10)) ?_
    refine Eq.trans (forGo_cons (turn8 n x30 w0 w1 w2 _ _ w5 w6 w7 w8 w9 w10)) ?_
    rfl
  have b1 := all_right (n + 3) (N := 5) (k := 2) (m := 2) (ps := [1, 2, 4]) cases52 (by decide) (by decide) (by decide) ⟨by decide, by decide⟩ (by decide +kernel)
  have b2 := all_right (n + 3) (N := 4) (k := 3) (m := 1) (ps := [1, 3]) cases43 (by decide) (by decide) (by decide) ⟨by decide, by decide⟩ (by decide +kernel)
  have b3 := all_right (n + 3) (N := 4) (k := 3) (m := 3) (ps := [1, 2, 3]) cases43 (by decide) (by decide) (by decide) ⟨by decide, by decide⟩ (by decide +kernel)
  have b1 : F (n + 8) 30 [.int 5, .int 2, .tup [.int 1, .int 2, .int 4], .int 2] = M.pure (.bl true) := b1
  have b2 : F (n + 8) 30 [.int 4, .int 1, .tup [.int 1, .int 3], .int 3] = M.pure (.bl true) := b2
  have b3 : F (n + 8) 30 [.int 4, .int 3, .tup [.int 1, .int 2, .int 3], .int 3] = M.pure (.bl true) := b3
  refine ⟨some (.int 3), some (.int 0), ?_⟩
  unfold q8
  generalize prs8 = P8 at *
  generalize it8 = I8 at *
  generalize lq8 = B at *
  unfold F at *
  simp -implicitDefEqProofs [q9, evS, i8, lp, b1, b2, b3]
end Row
namespace Row
open PySem DL
/-! ### what is refused -/
def okF (d : D) : Bool := dat d && (match d with
  | .tup xs => decide (xs.length ≤ 100) && xs.all dat
  | _ => true)
theorem okF_d {d : D} (h : okF d = true) : dat d = true := by
  unfold okF at h
  simp only [Bool.and_eq_true] at h
  exact h.1
theorem okF_t {xs : List D} (h : okF (.tup xs) = true) : xs.length ≤ 100 ∧ ∀ x ∈ xs, dat x = true := by
  unfold okF at h
  simp only [Bool.and_eq_true, List.all_eq_true, decide_eq_true_eq] at h
  exact h.2
theorem all_map (bs : List Bool) : bfop .all [.lst (bs.map D.bl)] = M.pure (.bl (bs.all id)) := by
  have e : blsOf (bs.map D.bl) = some bs := by
    induction bs with
    | nil => rfl
    | cons b bs ih =>
      show (match blsOf (bs.map D.bl) with
        | some is => some (b :: is)
        | none => none) = _
      rw [ih]
  show M.bind (M.opt (blsOf (bs.map D.bl))) (fun is => M.pure (D.bl (is.all id))) = _
  rw [e]
  rfl
theorem fm_bl (f : D → Bool) : ∀ xs : List D, xs.filterMap (fun d => some (D.bl (f d))) = (xs.map f).map D.bl
  | [] => rfl
  | a :: xs => by rw [List.filterMap_cons, fm_bl f xs]; rfl
def intsO : List D → List Int
  | [] => []
  | .int i :: xs => i :: intsO xs
  | _ :: xs => intsO xs
theorem intsO_map (is : List Int) : intsO (is.map D.int) = is := by
  induction is with
  | nil => rfl
  | cons i is ih => rw [List.map_cons, intsO, ih]
theorem ints_of_all {lo hi : Int} : ∀ {xs : List D}, xs.all (whB lo hi) = true → ∃ is : List Int, xs = is.map D.int ∧ ∀ i ∈ is, lo ≤ i ∧ i ≤ hi
  | [], _ => ⟨[], rfl, fun i hi => nomatch hi⟩
  | x :: xs, h => by
    simp only [List.all_cons, Bool.and_eq_true] at h
    obtain ⟨is, e, h2⟩ := ints_of_all h.2
    cases x with
    | int i =>
      have h1 : decide (lo ≤ i ∧ i ≤ hi) = true := h.1
      exact ⟨i :: is, by rw [e]; rfl, fun j hj => by
        rcases List.mem_cons.mp hj with rfl | hj
        · exact of_decide_eq_true h1
        · exact h2 j hj⟩
    | _ => cases h.1
def ascB (ps : List Int) : Bool := (ps.zip ps.tail).all fun x => decide (x.1 < x.2)
theorem ascending' (n : Nat) {ps : List Int} (hl : ps.length ≤ 1000) : F (n + 1) 8 [tI ps] = M.pure (.bl (ascB ps)) := by
  unfold F tI
  rw [call_at (d := d8) rfl rfl _ rfl, run_eq]
  have c1 : slcop (some 1) none (.tup (ps.map D.int)) = M.pure (.tup (ps.tail.map D.int)) := by
    show M.pure (D.tup (cut (ps.map D.int) (some 1) none)) = _
    rw [cut1, List.map_tail]
  have hz : zipop (.tup (ps.map D.int)) (.tup (ps.tail.map D.int)) = M.pure (zipD (ps.map D.int) (ps.tail.map D.int)) := rfl
  have hlen : lenOk (zipD (ps.map D.int) (ps.tail.map D.int)) = M.pure (zipD (ps.map D.int) (ps.tail.map D.int)) := lenOk_le (by
    unfold zipD
    simp
    omega)
  have hlc := lcGo_map (f := lcTurn (.tp (.cons (.nm 1) (.cons (.nm 2) .nil))) (ev (tabF (kcOf ks) tx n) (kcOf ks) .nil).t (ev (tabF (kcOf ks) tx n) (kcOf ks) (.cmp .lt (.var 1) (.var 2))).e [some (.tup (ps.map D.int)), none, none]) (g := fun d => match d with
    | .tup [.int a, .int b] => some (.bl (decide (a < b)))
    | _ => none) (zipD (ps.map D.int) (ps.tail.map D.int)) (fun d hd => by
    rw [zipD_int] at hd
    obtain ⟨x, hx, rfl⟩ := List.mem_map.mp hd
    generalize ps.map D.int = pD
    simp -implicitDefEqProofs [lcTurn, wipeE, Tz.slots, bindT, bindTs, DL.get])
  have hfm : (zipD (ps.map D.int) (ps.tail.map D.int)).filterMap (fun d => match d with
    | .tup [.int a, .int b] => some (D.bl (decide (a < b)))
    | _ => none) = ((ps.zip ps.tail).map fun x => decide (x.1 < x.2)).map D.bl := by
    rw [zipD_int]
    generalize ps.zip ps.tail = zs
    clear hlc hlen hz c1
    induction zs with
    | nil => rfl
    | cons z zs ih => rw [List.map_cons, List.filterMap_cons, ih]; rfl
  rw [hfm] at hlc
  have al := all_map ((ps.zip ps.tail).map fun x => decide (x.1 < x.2))
  have ea : ((ps.zip ps.tail).map fun x => decide (x.1 < x.2)).all id = ascB ps := by
    unfold ascB
    rw [List.all_map]
    rfl
  rw [ea] at al
  generalize ((ps.zip ps.tail).map fun x => decide (x.1 < x.2)).map D.bl = zb at *
  generalize zipD (ps.map D.int) (ps.tail.map D.int) = z at *
  generalize ps.tail.map D.int = tD at *
  generalize ps.map D.int = pD at *
  simp -implicitDefEqProofs [d8, b8, evS, DL.get, c1, hz, hlen, hlc, al]
def setB (N : Int) : D → Bool
  | .tup xs => xs.all (whB 0 (N - 1)) && ascB (intsO xs)
  | _ => false
theorem set_below' (n : Nat) {N : Int} {v : D} (h : okF v = true) : F (n + 2) 7 [v, .int N] = M.pure (.bl (setB N v)) := by
  unfold F
  rw [call_at (d := d7) rfl rfl _ rfl, run_eq]
  have i1 := isinT (okF_d h)
  have rv := res_dat (okF_d h)
  by_cases ht : ∃ xs, v = .tup xs
  · obtain ⟨xs, rfl⟩ := ht
    obtain ⟨hl, hx⟩ := okF_t h
    have i1 : bfop .isin [.tup xs, .ty "tuple"] = M.pure (.bl true) := i1
    have hlen : lenOk xs = M.pure xs := lenOk_le (by omega)
    have hlc := lcGo_map (f := lcTurn (.nm 2) (ev (tabF (kcOf ks) tx (n + 1)) (kcOf ks) .nil).t (ev (tabF (kcOf ks) tx (n + 1)) (kcOf ks) (.call 6 (.cons (.var 2) (.cons (.int 0) (.cons (.bin .sub (.var 1) (.int 1)) .nil))))).e [some (.tup xs), some (.int N), none]) (g := fun d => some (.bl (whB 0 (N - 1) d))) xs (fun d hd => by
      have e := is_whole n d 0 (N - 1) (hx d hd)
      have rd := res_dat (hx d hd)
      unfold F at e
      simp -implicitDefEqProofs [lcTurn, wipeE, Tz.slots, bindT, bindTs, DL.get, rd, e])
    rw [fm_bl] at hlc
    have al := all_map (xs.map (whB 0 (N - 1)))
    rw [show (xs.map (whB 0 (N - 1))).all id = xs.all (whB 0 (N - 1)) from by rw [List.all_map]; rfl] at al
    cases c : xs.all (whB 0 (N - 1)) with
    | false =>
      rw [c] at al
      have : setB N (.tup xs) = false := by unfold setB; dsimp only; rw [c]; rfl
      rw [this]
      generalize (xs.map (whB 0 (N - 1))).map D.bl = zb at *
      simp -implicitDefEqProofs [d7, b7, evS, DL.get, i1, hlen, hlc, al]
    | true =>
      rw [c] at al
      obtain ⟨is, rfl, _⟩ := ints_of_all c
      have a1 := ascending' n (ps := is) (by rw [List.length_map] at hl; omega)
      have : setB N (.tup (is.map D.int)) = ascB is := by unfold setB; dsimp only; rw [c, intsO_map]; rfl
      rw [this]
      unfold F tI at a1
      generalize ((is.map D.int).map (whB 0 (N - 1))).map D.bl = zb at *
      generalize is.map D.int = pD at *
      generalize ascB is = q at *
      simp -implicitDefEqProofs [d7, b7, evS, DL.get, i1, hlen, hlc, al, a1]
  · have i1 : bfop .isin [v, .ty "tuple"] = M.pure (.bl false) := by
      rw [i1]
      cases v <;> first | rfl | exact absurd ⟨_, rfl⟩ ht
    have : setB N v = false := by cases v <;> first | rfl | exact absurd ⟨_, rfl⟩ ht
    rw [this]
    simp -implicitDefEqProofs [d7, b7, evS, DL.get, rv, i1]
def colB (k : Int) : D → Bool
  | .tup xs => xs.all (whB 0 (k - 1))
  | _ => false
theorem colours' (n : Nat) {k : Int} {v : D} (h : okF v = true) : F (n + 2) 16 [.int k, v] = M.pure (.bl (colB k v)) := by
  unfold F
  rw [call_at (d := d16) rfl rfl _ rfl, run_eq]
  have i1 := isinT (okF_d h)
  have rv := res_dat (okF_d h)
  by_cases ht : ∃ xs, v = .tup xs
  · obtain ⟨xs, rfl⟩ := ht
    obtain ⟨hl, hx⟩ := okF_t h
    have i1 : bfop .isin [.tup xs, .ty "tuple"] = M.pure (.bl true) := i1
    have hlen : lenOk xs = M.pure xs := lenOk_le (by omega)
    have hlc := lcGo_map (f := lcTurn (.nm 2) (ev (tabF (kcOf ks) tx (n + 1)) (kcOf ks) .nil).t (ev (tabF (kcOf ks) tx (n + 1)) (kcOf ks) (.call 6 (.cons (.var 2) (.cons (.int 0) (.cons (.bin .sub (.var 0) (.int 1)) .nil))))).e [some (.int k), some (.tup xs), none]) (g := fun d => some (.bl (whB 0 (k - 1) d))) xs (fun d hd => by
      have e := is_whole n d 0 (k - 1) (hx d hd)
      have rd := res_dat (hx d hd)
      unfold F at e
      simp -implicitDefEqProofs [lcTurn, wipeE, Tz.slots, bindT, bindTs, DL.get, rd, e])
    rw [fm_bl] at hlc
    have al := all_map (xs.map (whB 0 (k - 1)))
    rw [show (xs.map (whB 0 (k - 1))).all id = xs.all (whB 0 (k - 1)) from by rw [List.all_map]; rfl] at al
    show _ = M.pure (D.bl (xs.all (whB 0 (k - 1))))
    generalize xs.all (whB 0 (k - 1)) = q at *
    generalize (xs.map (whB 0 (k - 1))).map D.bl = zb at *
    simp -implicitDefEqProofs [d16, b16, evS, DL.get, i1, hlen, hlc, al]
  · have i1 : bfop .isin [v, .ty "tuple"] = M.pure (.bl false) := by
      rw [i1]
      cases v <;> first | rfl | exact absurd ⟨_, rfl⟩ ht
    have : colB k v = false := by cases v <;> first | rfl | exact absurd ⟨_, rfl⟩ ht
    rw [this]
    simp -implicitDefEqProofs [d16, b16, evS, DL.get, rv, i1]
section
variable (n : Nat) {a b v h1 h2 : D} (ha : dat a = true) (hb : dat b = true) (hv : dat v = true)
include ha hb
theorem no22 (h : whB 1 30 a = false ∨ (whB 1 30 a = true ∧ whB 0 30 b = false)) : F (n + 3) 22 [a, b] = throwM 0 ∧ F (n + 3) 21 [a, b] = throwM 0 := by
  have e1 := need_whole n a 1 30 ha
  have e2 := need_whole n b 0 30 hb
  have ra := res_dat ha
  have rb := res_dat hb
  unfold F at *
  rw [call_at (d := d22) rfl rfl _ rfl, call_at (d := d21) rfl rfl _ rfl, run_eq, run_eq]
  rcases h with h | ⟨h, h2⟩
  · rw [h, if_neg Bool.false_ne_true] at e1
    constructor
    · simp -implicitDefEqProofs [d22, b22, evS, DL.get, k0, ra, e1]
    · simp -implicitDefEqProofs [d21, b21, evS, DL.get, k0, ra, e1]
  · rw [h, if_pos rfl] at e1
    rw [h2, if_neg Bool.false_ne_true] at e2
    constructor
    · simp -implicitDefEqProofs [d22, b22, evS, DL.get, k0, ra, rb, e1, e2]
    · simp -implicitDefEqProofs [d21, b21, evS, DL.get, k0, ra, rb, e1, e2]
include hv
theorem no4 (h : whB 1 30 a = false ∨ (whB 1 30 a = true ∧ whB 0 30 b = false)) : F (n + 3) 4 [a, b, v] = throwM 0 := by
  have e1 := need_whole n a 1 30 ha
  have e2 := need_whole n b 0 30 hb
  have ra := res_dat ha
  have rb := res_dat hb
  unfold F at *
  rw [call_at (d := d4) rfl rfl _ rfl, run_eq]
  rcases h with h | ⟨h, h2⟩
  · rw [h, if_neg Bool.false_ne_true] at e1
    simp -implicitDefEqProofs [d4, b4, evS, DL.get, k0, ra, e1]
  · rw [h, if_pos rfl] at e1
    rw [h2, if_neg Bool.false_ne_true] at e2
    simp -implicitDefEqProofs [d4, b4, evS, DL.get, k0, ra, rb, e1, e2]
theorem no14 (h : whB 2 10 a = false ∨ (whB 2 10 a = true ∧ whB 0 30 b = false)) : F (n + 3) 14 [a, b, v] = throwM 0 := by
  have e1 := need_whole n a 2 10 ha
  have e2 := need_whole n b 0 30 hb
  have ra := res_dat ha
  have rb := res_dat hb
  unfold F at *
  rw [call_at (d := d14) rfl rfl _ rfl, run_eq]
  rcases h with h | ⟨h, h2⟩
  · rw [h, if_neg Bool.false_ne_true] at e1
    simp -implicitDefEqProofs [d14, b14, evS, DL.get, k0, k1, ra, e1]
  · rw [h, if_pos rfl] at e1
    rw [h2, if_neg Bool.false_ne_true] at e2
    simp -implicitDefEqProofs [d14, b14, evS, DL.get, k0, k1, ra, rb, e1, e2]
omit hb ha
/-- what the judge of the players refuses is refused -/
theorem thr3 {c : Nat} (ha : dat a = true) (hb : dat b = true) (e : F (n + 3) 4 [a, b, v] = throwM c) : F (n + 4) 3 [a, b, v] = throwM c ∧ F (n + 4) 10 [a, b, v] = throwM c := by
  have ra := res_dat ha
  have rb := res_dat hb
  have rv := res_dat hv
  unfold F at *
  rw [call_at (d := d3) rfl rfl _ rfl, call_at (d := d10) rfl rfl _ rfl, run_eq, run_eq]
  constructor
  · simp -implicitDefEqProofs [d3, b3, evS, DL.get, ra, rb, rv, e]
  · simp -implicitDefEqProofs [d10, b10, evS, DL.get, ra, rb, rv, e]
theorem thr13 {c : Nat} (ha : dat a = true) (hb : dat b = true) (e : F (n + 3) 14 [a, b, v] = throwM c) : F (n + 4) 13 [a, b, v, h1] = throwM c := by
  have ra := res_dat ha
  have rb := res_dat hb
  have rv := res_dat hv
  unfold F at *
  rw [call_at (d := d13) rfl rfl _ rfl, run_eq]
  simp -implicitDefEqProofs [d13, b13, evS, DL.get, ra, rb, rv, e]
theorem thr19 {c : Nat} (ha : dat a = true) (hb : dat b = true) (e : F (n + 3) 14 [a, b, v] = throwM c) : F (n + 4) 19 [a, b, v, h1, h2] = throwM c := by
  have ra := res_dat ha
  have rb := res_dat hb
  have rv := res_dat hv
  unfold F at *
  rw [call_at (d := d19) rfl rfl _ rfl, run_eq]
  simp -implicitDefEqProofs [d19, b19, evS, DL.get, ra, rb, rv, e]
end
theorem no4s (n : Nat) {N m : Int} {v : D} (hN : 1 ≤ N ∧ N ≤ 30) (hm : 0 ≤ m ∧ m ≤ 30) (hv : okF v = true) (h : setB N v = false) : F (n + 3) 4 [.int N, .int m, v] = throwM 1 := by
  have e1 := needT n hN
  have e2 := needT n hm
  have e3 := set_below' n (N := N) hv
  rw [h] at e3
  have rv := res_dat (okF_d hv)
  unfold F at *
  rw [call_at (d := d4) rfl rfl _ rfl, run_eq]
  simp -implicitDefEqProofs [d4, b4, evS, DL.get, k0, rv, e1, e2, e3]
theorem no14s (n : Nat) {k m : Int} {v : D} (hk : 2 ≤ k ∧ k ≤ 10) (hm : 0 ≤ m ∧ m ≤ 30) (hv : okF v = true) (h : setB 30 v = false) : F (n + 3) 14 [.int k, .int m, v] = throwM 1 := by
  have e1 := needT n hk
  have e2 := needT n hm
  have e3 := set_below' n (N := 30) hv
  rw [h] at e3
  have rv := res_dat (okF_d hv)
  unfold F at *
  rw [call_at (d := d14) rfl rfl _ rfl, run_eq]
  simp -implicitDefEqProofs [d14, b14, evS, DL.get, k0, k1, rv, e1, e2, e3]
theorem no14b (n : Nat) {k m p : Int} {ps : List Int} (hk : 2 ≤ k ∧ k ≤ 10) (hm : 0 ≤ m ∧ m ≤ 30) (h : Pl 30 ps) (hb : badN m ps = some p) : F (n + 3) 14 [.int k, .int m, tI ps] = throwM 1 := by
  have e1 := needT n hk
  have e2 := needT n hm
  have e3 := set_below n h (by decide)
  have e4 := bad9 (n + 1) (pd_t ps) (m := m) (by omega) (h.b1000 (by decide))
  rw [hb] at e4
  have e4 : F (n + 2) 9 [.int m, tI ps] = M.pure (.int p) := e4
  have i0 : (D.int p).isNon = false := rfl
  unfold F at *
  rw [call_at (d := d14) rfl rfl _ rfl, run_eq]
  have rs : res (tI ps) = M.pure (tI ps) := rfl
  generalize tI ps = T at *
  simp -implicitDefEqProofs [d14, b14, evS, DL.get, k0, k1, rs, e1, e2, e3, e4, i0]
section
variable (n : Nat) {k m : Int} {ps : List Int} (hk : 2 ≤ k ∧ k ≤ 10) (hm : 0 ≤ m ∧ m ≤ 30) (pl : Pl 30 ps) (hb : badN m ps = none)
include hk hm pl hb
theorem no13h {h : D} (hh : okF h = true) (c : (tupB 1 30 h && colB k h) = false) : F (n + 4) 13 [.int k, .int m, tI ps, h] = throwM 2 := by
  have e1 := need_sure n pl hk hm hb
  have e2 := is_tuple_of (n + 2) h 1 30 (okF_d hh)
  have e3 := colours' (n + 1) (k := k) hh
  have rt : res (tI ps) = M.pure (tI ps) := rfl
  have rh := res_dat (okF_d hh)
  unfold F at *
  rw [call_at (d := d13) rfl rfl _ rfl, run_eq]
  generalize tI ps = T at *
  generalize colB k h = q2 at *
  cases q1 : tupB 1 30 h with
  | false =>
    rw [q1] at e2
    simp -implicitDefEqProofs [d13, b13, evS, DL.get, k0, rt, rh, e1, e2]
  | true =>
    rw [q1] at e2 c
    have c : q2 = false := c
    subst c
    simp -implicitDefEqProofs [d13, b13, evS, DL.get, k0, rt, rh, e1, e2, e3]
theorem no19h {h1 h2 : D} (hh1 : okF h1 = true) (hh2 : okF h2 = true) (c : (colB k h1 && colB k h2) = false) : F (n + 4) 19 [.int k, .int m, tI ps, h1, h2] = throwM 2 := by
  have e1 := need_sure n pl hk hm hb
  have e2 := colours' (n + 1) (k := k) hh1
  have e3 := colours' (n + 1) (k := k) hh2
  have rt : res (tI ps) = M.pure (tI ps) := rfl
  have r1 := res_dat (okF_d hh1)
  have r2 := res_dat (okF_d hh2)
  unfold F at *
  rw [call_at (d := d19) rfl rfl _ rfl, run_eq]
  generalize tI ps = T at *
  generalize colB k h2 = q2 at *
  cases q1 : colB k h1 with
  | false =>
    rw [q1] at e2
    simp -implicitDefEqProofs [d19, b19, evS, DL.get, k0, rt, r1, r2, e1, e2]
  | true =>
    rw [q1] at e2 c
    have c : q2 = false := c
    subst c
    simp -implicitDefEqProofs [d19, b19, evS, DL.get, k0, rt, r1, r2, e1, e2, e3]
theorem no19l {xs ys : List D} (hh1 : okF (.tup xs) = true) (hh2 : okF (.tup ys) = true) (c1 : colB k (.tup xs) = true) (c2 : colB k (.tup ys) = true) (c : 30 ≤ (xs.length : Int) ∨ m < (ys.length : Int) ∨ 30 < (xs.length : Int) + 1 + (ys.length : Int)) : F (n + 4) 19 [.int k, .int m, tI ps, .tup xs, .tup ys] = throwM 2 := by
  have e1 := need_sure n pl hk hm hb
  have e2 := colours' (n + 1) (k := k) hh1
  have e3 := colours' (n + 1) (k := k) hh2
  rw [c1] at e2
  rw [c2] at e3
  have rt : res (tI ps) = M.pure (tI ps) := rfl
  unfold F at *
  rw [call_at (d := d19) rfl rfl _ rfl, run_eq]
  generalize tI ps = T at *
  by_cases d1 : 30 ≤ (xs.length : Int)
  · have d1' : decide (30 ≤ (xs.length : Int)) = true := decide_eq_true d1
    simp -implicitDefEqProofs [-decide_eq_true_eq, -decide_eq_false_iff_not, d19, b19, evS, DL.get, setE, k0, rt, e1, e2, e3, d1']
  · have d1' : decide (30 ≤ (xs.length : Int)) = false := decide_eq_false d1
    by_cases d2 : m < (ys.length : Int)
    · have d2' : decide (m < (ys.length : Int)) = true := decide_eq_true d2
      simp -implicitDefEqProofs [-decide_eq_true_eq, -decide_eq_false_iff_not, d19, b19, evS, DL.get, setE, k0, rt, e1, e2, e3, d1', d2']
    · have d2' : decide (m < (ys.length : Int)) = false := decide_eq_false d2
      have d3' : decide (30 < (xs.length : Int) + 1 + (ys.length : Int)) = true := decide_eq_true (by omega)
      simp -implicitDefEqProofs [-decide_eq_true_eq, -decide_eq_false_iff_not, d19, b19, evS, DL.get, setE, k0, rt, e1, e2, e3, d1', d2', d3']
end
end Row
namespace Row
open PySem DL
def ap0 (w : Str) (q : Nat) : Sz := (.app (.var 1) (.tup (.cons (.str w) (.cons (.isx (.var 5) q) .nil))))
def le0 : Ez := (.lc (.tp (.cons (.nm 3) (.cons (.nm 4) .nil))) (.frz 1) (.var 4) (.var 3))
theorem ebe : e0.body = (.cons (.set 1 (.mkl (.lst .nil))) (.cons (ap0 "number" 0) (.cons (ap0 "set" 1) (.cons (ap0 "hats" 2) (.cons (.set 2 le0) (.cons (.ret (.ife (.cmp .ne (.var 2) (.lst .nil)) (.join " " (.var 2)) (.str "other"))) .nil)))))) := rfl
theorem ap_ok {C : Nat → List D → M D} {c : Nat} {μ : Mem} {w : Str} {q : Nat} {acc : List D} (hl : acc.length ≤ 10) (w0 x2 x3 x4 : Option D) : Rn (μ ++ [.lst acc]) (evS C (fun _ => .int (c : Int)) (ap0 w q) [w0, some (.ref μ.length), x2, x3, x4, some .exn]) (.nx [w0, some (.ref μ.length), x2, x3, x4, some .exn]) (μ ++ [.lst (acc ++ [.tup [.str w, .bl (decide (c = q))]])]) := by
  have e := Rn_app (μ := μ ++ [.lst acc]) (n := μ.length) (xs := acc) (x := .tup [.str w, .bl (decide (c = q))]) getM0 (by omega)
  rw [setM0] at e
  have ix : isxop (fun _ => D.int (c : Int)) q .exn = M.pure (.bl (decide (c = q))) := by
    show M.pure (D.bl ((c : Int) == (q : Int))) = _
    by_cases h : c = q
    · subst h; simp
    · rw [decide_eq_false h, show ((c : Int) == (q : Int)) = false from beq_eq_false_iff_ne.mpr (by omega)]
  have rx : res .exn = M.pure .exn := rfl
  unfold ap0
  simp -implicitDefEqProofs [evS, DL.get, rx, ix]
  refine Rn_bind (Rn_res (o := .lst acc) getM0 (fun _ q => nomatch q)) ?_
  refine Rn_bind (Rn_seqL (xs := acc) getM0) ?_
  exact Rn_bind e Rn_pure
theorem lcE {C : Nat → List D → M D} {K : Nat → D} {w0 w1 w2 w5 : Option D} {b0 b1 b2 : Bool} : lcGo [.tup [.str "number", .bl b0], .tup [.str "set", .bl b1], .tup [.str "hats", .bl b2]] (lcTurn (.tp (.cons (.nm 3) (.cons (.nm 4) .nil))) (ev C K (.var 4)).t (ev C K (.var 3)).e [w0, w1, w2, none, none, w5]) = M.pure ((if b0 = true then [.str "number"] else []) ++ ((if b1 = true then [.str "set"] else []) ++ (if b2 = true then [D.str "hats"] else []))) := by
  cases b0 <;> cases b1 <;> cases b2 <;> kernel_rfl
theorem errW {c : Nat} {w : Str} (μ : Mem) (hc : (c = 0 ∧ w = "number") ∨ (c = 1 ∧ w = "set") ∨ (c = 2 ∧ w = "hats")) : ∃ ob, Rn μ (errC exs e0 [.int (c : Int)]) (.str w) (μ ++ [ob]) := by
  have e1 : errC exs e0 [.int (c : Int)] = M.bind (e0.run c e0.env) outStr := by
    rcases hc with ⟨rfl, rfl⟩ | ⟨rfl, rfl⟩ | ⟨rfl, rfl⟩ <;> rfl
  have en : e0.env = [none, none, none, none, none, some .exn] := rfl
  refine ⟨.fro (.lst [.tup [.str "number", .bl (decide (c = 0))], .tup [.str "set", .bl (decide (c = 1))], .tup [.str "hats", .bl (decide (c = 2))]]), ?_⟩
  rw [e1, en]
  unfold Er.run
  rw [ebe]
  have hl3 : lenOk [.tup [.str "number", .bl (decide (c = 0))], .tup [.str "set", .bl (decide (c = 1))], .tup [.str "hats", .bl (decide (c = 2))]] = M.pure [.tup [.str "number", .bl (decide (c = 0))], .tup [.str "set", .bl (decide (c = 1))], .tup [.str "hats", .bl (decide (c = 2))]] := lenOk_le (by show 3 ≤ 8000; omega)
  have fz := Rn_frz (μ := μ ++ [.lst [.tup [.str "number", .bl (decide (c = 0))], .tup [.str "set", .bl (decide (c = 1))], .tup [.str "hats", .bl (decide (c = 2))]]]) (n := μ.length) (xs := [.tup [.str "number", .bl (decide (c = 0))], .tup [.str "set", .bl (decide (c = 1))], .tup [.str "hats", .bl (decide (c = 2))]]) getM0
  rw [setM0] at fz
  have lc := lcE (C := noC) (K := fun _ => D.int (c : Int)) (w0 := none) (w1 := some (.ref μ.length)) (w2 := none) (w5 := some .exn) (b0 := decide (c = 0)) (b1 := decide (c = 1)) (b2 := decide (c = 2))
  have hw : ((if decide (c = 0) = true then [D.str "number"] else []) ++ ((if decide (c = 1) = true then [.str "set"] else []) ++ (if decide (c = 2) = true then [D.str "hats"] else []))) = [.str w] := by
    rcases hc with ⟨rfl, rfl⟩ | ⟨rfl, rfl⟩ | ⟨rfl, rfl⟩ <;> rfl
  rw [hw] at lc
  have fin : evS noC (fun _ => D.int (c : Int)) (.cons (.ret (.ife (.cmp .ne (.var 2) (.lst .nil)) (.join " " (.var 2)) (.str "other"))) .nil) [none, some (.ref μ.length), some (.lst [.str w]), none, none, some .exn] = M.pure (.rt (.str w)) := by
    rcases hc with ⟨rfl, rfl⟩ | ⟨rfl, rfl⟩ | ⟨rfl, rfl⟩ <;> kernel_rfl
  refine Rn_bind (Rn_bind (a := .nx [none, some (.ref μ.length), none, none, none, some .exn]) (μ' := μ ++ [.lst []]) ?_ (Rn_bind (ap_ok (acc := []) (by decide) none none none none) (Rn_bind (ap_ok (acc := [.tup [.str "number", .bl (decide (c = 0))]]) (by show 1 ≤ 10; omega) none none none none) (Rn_bind (ap_ok (acc := [.tup [.str "number", .bl (decide (c = 0))], .tup [.str "set", .bl (decide (c = 1))]]) (by show 2 ≤ 10; omega) none none none none) (Rn_bind (a := .nx [none, some (.ref μ.length), some (.lst [.str w]), none, none, some .exn]) (μ' := μ ++ [.fro (.lst [.tup [.str "number", .bl (decide (c = 0))], .tup [.str "set", .bl (decide (c = 1))], .tup [.str "hats", .bl (decide (c = 2))]])]) ?_ (Rn_at (show At _ _ (Out.rt (.str w)) by
    show At _ (evS noC (fun _ => D.int (c : Int)) (.cons (.ret (.ife (.cmp .ne (.var 2) (.lst .nil)) (.join " " (.var 2)) (.str "other"))) .nil) [none, some (.ref μ.length), some (.lst [.str w]), none, none, some .exn]) _
    rw [fin]
    exact At_pure))))))) Rn_pure
  · simp -implicitDefEqProofs [evS]
    exact Rn_bind Rn_alloc (by simp -implicitDefEqProofs [setE]; exact Rn_pure)
  · show Rn _ (evS noC (fun _ => D.int (c : Int)) (.set 2 le0) [none, some (.ref μ.length), none, none, none, some .exn]) _ _
    unfold le0
    simp -implicitDefEqProofs [evS, DL.get]
    refine Rn_bind fz ?_
    rw [still_lst, pb, hl3, pb, lc, pb]
    simp -implicitDefEqProofs [setE]
    exact Rn_pure
theorem At_errW {c : Nat} {w : Str} {μ : Mem} (hcl : clo μ) (hc : (c = 0 ∧ w = "number") ∨ (c = 1 ∧ w = "set") ∨ (c = 2 ∧ w = "hats")) : At μ (errM (throwM c) (errC exs e0)) (.str w) := by
  obtain ⟨ob, h⟩ := errW μ hc
  show (errC exs e0 [.int (c : Int)] μ).bind (errEnd μ.length) = _
  rw [show errC exs e0 [.int (c : Int)] μ = _ from h]
  show (if ((μ ++ [ob]).take μ.length).all (Ob.noRef μ.length) = true then T.ret (R.ok (D.str w) ((μ ++ [ob]).take μ.length)) else T.ret R.bad) = _
  rw [List.take_left' rfl]
  exact if_pos hcl
end Row
namespace Row
open PySem DL
def z1_0 : Sz := (.set 1 (.mkl (.bin .add (.var 1) (.lc (.nm 4) (.tup (.cons (.gfn 22) (.cons (.gfn 21) .nil))) .nil (.err 100000 (.callv 4 (.cons (.var 2) (.cons (.var 3) .nil))))))))
def z1_1 : Sz := (.set 1 (.mkl (.bin .add (.var 1) (.lc (.nm 4) (.tup (.cons (.gfn 3) (.cons (.gfn 10) .nil))) .nil (.err 100000 (.callv 4 (.cons (.var 2) (.cons (.var 3) (.cons .non .nil)))))))))
def lz1 : Sz := (.cons z1_0 (.cons z1_1 .nil))
def jt1 : Ez := (.tup (.cons (.tup (.cons .non (.cons (.int 1) .nil))) (.cons (.tup (.cons (.int 0) (.cons (.int 1) .nil))) (.cons (.tup (.cons (.int 31) (.cons (.int 1) .nil))) (.cons (.tup (.cons (.bl true) (.cons (.int 1) .nil))) (.cons (.tup (.cons (.int 5) (.cons .non .nil))) (.cons (.tup (.cons (.int 5) (.cons (.neg (.int 1)) .nil))) (.cons (.tup (.cons (.int 5) (.cons (.int 31) .nil))) (.cons (.tup (.cons (.int 5) (.cons (.bl true) .nil))) .nil)))))))))
def z2_0 : Sz := (.app (.var 1) (.err 100000 (.call 19 (.cons (.var 5) (.cons (.var 3) (.cons .non (.cons .non (.cons .non .nil))))))))
def z2_1 : Sz := (.app (.var 1) (.err 100000 (.call 13 (.cons (.var 5) (.cons (.var 3) (.cons .non (.cons .non .nil)))))))
def lz2 : Sz := (.cons z2_0 (.cons z2_1 .nil))
def jt2 : Ez := (.tup (.cons (.tup (.cons .non (.cons (.int 1) .nil))) (.cons (.tup (.cons (.int 1) (.cons (.int 1) .nil))) (.cons (.tup (.cons (.int 11) (.cons (.int 1) .nil))) (.cons (.tup (.cons (.bl true) (.cons (.int 1) .nil))) (.cons (.tup (.cons (.int 2) (.cons .non .nil))) (.cons (.tup (.cons (.int 2) (.cons (.neg (.int 1)) .nil))) (.cons (.tup (.cons (.int 2) (.cons (.int 31) .nil))) .nil))))))))
def z5_0 : Sz := (.set 1 (.mkl (.bin .add (.var 1) (.lc (.nm 4) (.tup (.cons (.gfn 3) (.cons (.gfn 10) .nil))) .nil (.err 100000 (.callv 4 (.cons (.int 5) (.cons (.int 1) (.cons (.var 6) .nil)))))))))
def lz5 : Sz := (.cons z5_0 .nil)
def jt5 : Ez := (.tup (.cons .non (.cons (.tup (.cons (.int 5) .nil)) (.cons (.tup (.cons (.int 2) (.cons (.int 1) .nil))) (.cons (.tup (.cons (.int 1) (.cons (.int 1) .nil))) (.cons (.lst (.cons (.int 1) .nil)) (.cons (.tup (.cons (.bl true) .nil)) (.cons (.tup (.cons (.neg (.int 1)) .nil)) (.cons (.int 1) .nil)))))))))
def z6_0 : Sz := (.app (.var 1) (.err 100000 (.call 19 (.cons (.int 2) (.cons (.int 1) (.cons (.var 6) (.cons .non (.cons .non .nil))))))))
def z6_1 : Sz := (.app (.var 1) (.err 100000 (.call 13 (.cons (.int 2) (.cons (.int 1) (.cons (.var 6) (.cons .non .nil)))))))
def lz6 : Sz := (.cons z6_0 (.cons z6_1 .nil))
def jt6 : Ez := (.tup (.cons .non (.cons (.tup (.cons (.int 30) .nil)) (.cons (.tup (.cons (.int 0) .nil)) (.cons (.tup (.cons (.int 1) (.cons (.int 2) .nil))) (.cons (.lst (.cons (.int 1) .nil)) (.cons (.tup (.cons (.bl true) .nil)) .nil)))))))
def z11_0 : Sz := (.app (.var 1) (.err 100000 (.call 13 (.cons (.int 2) (.cons (.int 1) (.cons (.tup .nil) (.cons (.var 7) .nil)))))))
def z11_1 : Sz := (.app (.var 1) (.err 100000 (.call 19 (.cons (.int 2) (.cons (.int 1) (.cons (.tup .nil) (.cons (.var 7) (.cons (.tup .nil) .nil))))))))
def z11_2 : Sz := (.app (.var 1) (.err 100000 (.call 19 (.cons (.int 2) (.cons (.int 1) (.cons (.tup .nil) (.cons (.tup .nil) (.cons (.var 7) .nil))))))))
def lz11 : Sz := (.cons z11_0 (.cons z11_1 (.cons z11_2 .nil)))
def jt11 : Ez := (.tup (.cons .non (.cons (.tup (.cons (.int 2) .nil)) (.cons (.lst (.cons (.int 0) .nil)) (.cons (.tup (.cons (.bl true) .nil)) (.cons (.tup (.cons (.neg (.int 1)) .nil)) (.cons (.int 0) (.cons (.bin .mul (.tup (.cons (.int 0) .nil)) (.int 31)) (.cons (.tup (.cons .non .nil)) .nil)))))))))
def z0 : Sz := (.set 1 (.mkl (.lst .nil)))
def z1 : Sz := (.for (.tp (.cons (.nm 2) (.cons (.nm 3) .nil))) jt1 lz1)
def z2 : Sz := (.for (.tp (.cons (.nm 5) (.cons (.nm 3) .nil))) jt2 lz2)
def z3 : Sz := (.ite (.cmp .ne (.var 1) (.bin .mul (.lst (.cons (.str "number") .nil)) (.int 46))) (.cons (.ret (.bl false)) .nil) .nil)
def z4 : Sz := (.set 1 (.mkl (.lst .nil)))
def z5 : Sz := (.for (.nm 6) jt5 lz5)
def z6 : Sz := (.for (.nm 6) jt6 lz6)
def z7 : Sz := (.app (.var 1) (.err 100000 (.call 13 (.cons (.int 2) (.cons (.int 1) (.cons (.tup (.cons (.int 3) .nil)) (.cons (.tup (.cons (.int 0) (.cons (.int 0) (.cons (.int 0) .nil)))) .nil)))))))
def z8 : Sz := (.app (.var 1) (.err 100000 (.call 19 (.cons (.int 2) (.cons (.int 2) (.cons (.tup (.cons (.int 3) .nil)) (.cons (.tup (.cons (.int 0) .nil)) (.cons (.tup (.cons (.int 1) .nil)) .nil))))))))
def z9 : Sz := (.ite (.cmp .ne (.var 1) (.bin .mul (.lst (.cons (.str "set") .nil)) (.int 30))) (.cons (.ret (.bl false)) .nil) .nil)
def z10 : Sz := (.set 1 (.mkl (.lst .nil)))
def z11 : Sz := (.for (.nm 7) jt11 lz11)
def z12 : Sz := (.app (.var 1) (.err 100000 (.call 19 (.cons (.int 2) (.cons (.int 1) (.cons (.tup .nil) (.cons (.tup .nil) (.cons (.tup (.cons (.int 0) (.cons (.int 0) .nil))) .nil))))))))
def z13 : Sz := (.app (.var 1) (.err 100000 (.call 19 (.cons (.int 2) (.cons (.int 3) (.cons (.tup .nil) (.cons (.bin .mul (.tup (.cons (.int 0) .nil)) (.int 28)) (.cons (.tup (.cons (.int 0) (.cons (.int 0) .nil))) .nil))))))))
def z14 : Sz := (.app (.var 1) (.err 100000 (.call 13 (.cons (.int 2) (.cons (.int 1) (.cons (.tup .nil) (.cons (.tup .nil) .nil)))))))
def z15 : Sz := (.ret (.cmp .eq (.frz 1) (.bin .mul (.lst (.cons (.str "hats") .nil)) (.int 27))))
theorem eb26 : d26.body = (.cons z0 (.cons z1 (.cons z2 (.cons z3 (.cons z4 (.cons z5 (.cons z6 (.cons z7 (.cons z8 (.cons z9 (.cons z10 (.cons z11 (.cons z12 (.cons z13 (.cons z14 (.cons z15 .nil)))))))))))))))) := rfl
def ew (c : Nat) (w : Str) : Prop := (c = 0 ∧ w = "number") ∨ (c = 1 ∧ w = "set") ∨ (c = 2 ∧ w = "hats")
/-! ### words in a live list -/
def okOb (o : Ob) : Prop := o = .cup ∨ ∃ ds, o = .lst ds ∧ ds.all D.flat = true
def okM (Z : Mem) : Prop := ∀ o ∈ Z, okOb o
theorem flat_noRef {n : Nat} : ∀ {ds : List D}, ds.all D.flat = true → D.noRefs n ds = true
  | [], _ => rfl
  | d :: ds, h => by
    simp only [List.all_cons, Bool.and_eq_true] at h
    rw [D.noRefs, flat_noRef h.2]
    cases d <;> first | rfl | cases h.1
theorem okM_clo {Z : Mem} (h : okM Z) : clo Z := List.all_eq_true.mpr fun o ho => by
  rcases h o ho with rfl | ⟨ds, rfl, hf⟩
  · rfl
  · rw [Ob.noRef]
    exact flat_noRef hf
def reps (k : Nat) (w : Str) : List D := List.replicate k (.str w)
theorem reps_flat (k : Nat) (w : Str) : (reps k w).all D.flat = true := List.all_eq_true.mpr fun d hd => by
  rw [List.eq_of_mem_replicate hd]
  rfl
theorem reps_add (k j : Nat) (w : Str) : reps k w ++ reps j w = reps (k + j) w := List.replicate_append_replicate
structure St (μ Z : Mem) (r k : Nat) (w : Str) : Prop where
  ok : okM Z
  pre : ∃ l, Z = μ ++ l
  hr : μ.length ≤ r
  hc : Z[r]? = some (.lst (reps k w))
theorem okM_push {Z : Mem} {ds : List D} (h : okM Z) (hf : ds.all D.flat = true) : okM (Z ++ [.lst ds]) := fun o ho => by
  rcases List.mem_append.mp ho with ho | ho
  · exact h o ho
  · rw [List.mem_singleton.mp ho]
    exact .inr ⟨ds, rfl, hf⟩
theorem St.new {μ Z : Mem} {w : Str} (hM : okM Z) (hp : ∃ l, Z = μ ++ l) (k : Nat) : St μ (Z ++ [.lst (reps k w)]) Z.length k w := by
  obtain ⟨l, rfl⟩ := hp
  exact ⟨okM_push hM (reps_flat k w), ⟨l ++ [.lst (reps k w)], by rw [List.append_assoc]⟩, by simp, by rw [List.getElem?_append_right (Nat.le_refl _), Nat.sub_self]; rfl⟩
theorem St.app {μ Z : Mem} {r k : Nat} {w : Str} (s : St μ Z r k w) : St μ (Z.set r (.lst (reps (k + 1) w))) r (k + 1) w := by
  obtain ⟨l, rfl⟩ := s.pre
  have hlt := (List.getElem?_eq_some_iff.mp s.hc).1
  refine ⟨fun o ho => ?_, ⟨l.set (r - μ.length) (.lst (reps (k + 1) w)), ?_⟩, s.hr, ?_⟩
  · rcases List.mem_or_eq_of_mem_set ho with ho | ho
    · exact s.ok o ho
    · exact .inr ⟨_, ho, reps_flat _ _⟩
  · rw [List.set_append_right _ _ s.hr]
  · rw [List.getElem?_set_self hlt]
section
variable {C : Nat → List D → M D} {K : Nat → D} {μ Z : Mem} {w : Str}
def envW (r : Nat) (x2 x3 x5 x6 x7 : Option D) : DL.Env := [some (.ref 0), some (.ref r), x2, x3, none, x5, x6, x7]
theorem s_new (hM : okM Z) (hp : ∃ l, Z = μ ++ l) (x1 x2 x3 x5 x6 x7 : Option D) : Rn Z (evS C K (.set 1 (.mkl (.lst .nil))) [some (.ref 0), x1, x2, x3, none, x5, x6, x7]) (.nx (envW Z.length x2 x3 x5 x6 x7)) (Z ++ [.lst (reps 0 w)]) := by
  simp -implicitDefEqProofs [evS]
  exact Rn_bind Rn_alloc (by simp -implicitDefEqProofs [setE]; exact Rn_pure)
theorem s_app {r k : Nat} (s : St μ Z r k w) (hk : k ≤ 1000) {x2 x3 x5 x6 x7 : Option D} {E : Ez} (he : At Z ((ev C K E).e (envW r x2 x3 x5 x6 x7)) (.str w)) : Rn Z (evS C K (.app (.var 1) E) (envW r x2 x3 x5 x6 x7)) (.nx (envW r x2 x3 x5 x6 x7)) (Z.set r (.lst (reps (k + 1) w))) := by
  have e := Rn_app (μ := Z) (n := r) (xs := reps k w) (x := .str w) s.hc (by unfold reps; simp; omega)
  rw [show reps k w ++ [.str w] = reps (k + 1) w from reps_add k 1 w] at e
  unfold envW at *
  simp -implicitDefEqProofs [evS, DL.get]
  refine Rn_bind (Rn_res (o := .lst (reps k w)) s.hc (fun _ q => nomatch q)) ?_
  refine Rn_bind (Rn_seqL (xs := reps k w) s.hc) ?_
  refine Rn_bind (Rn_at he) ?_
  exact Rn_bind e Rn_pure
theorem s_lc {r k : Nat} (s : St μ Z r k w) (hk : k ≤ 1000) {x2 x3 x5 x6 x7 : Option D} {f g : Nat} {as : Ez} {c : Nat} (hC : C 100000 = errC exs e0) (hw : ew c w)
    (h1 : (ev C K (.callv 4 as)).e [some (.ref 0), some (.ref r), x2, x3, some (.fn f), x5, x6, x7] = throwM c) (h2 : (ev C K (.callv 4 as)).e [some (.ref 0), some (.ref r), x2, x3, some (.fn g), x5, x6, x7] = throwM c) :
    Rn Z (evS C K (.set 1 (.mkl (.bin .add (.var 1) (.lc (.nm 4) (.tup (.cons (.gfn f) (.cons (.gfn g) .nil))) .nil (.err 100000 (.callv 4 as)))))) (envW r x2 x3 x5 x6 x7)) (.nx (envW Z.length x2 x3 x5 x6 x7)) (Z ++ [.lst (reps (k + 2) w)]) := by
  have hlc := At_lc (μ := Z) (f := lcTurn (.nm 4) (ev C K .nil).t (ev C K (.err 100000 (.callv 4 as))).e [some (.ref 0), some (.ref r), x2, x3, none, x5, x6, x7]) (g := fun _ => some (.str w)) [.fn f, .fn g] (fun d hd => by
    refine At_calm ?_
    simp only [List.mem_cons, List.not_mem_nil, or_false] at hd
    generalize hX : (Ez.callv 4 as) = X at *
    rcases hd with rfl | rfl
    · simp -implicitDefEqProofs [wipeE, Tz.slots, bindT, h1, hC]
      exact At_bind (At_errW (okM_clo s.ok) hw) At_pure
    · simp -implicitDefEqProofs [wipeE, Tz.slots, bindT, h2, hC]
      exact At_bind (At_errW (okM_clo s.ok) hw) At_pure)
  have l2 : lenOk [D.fn f, D.fn g] = M.pure [.fn f, .fn g] := lenOk_le (by show 2 ≤ 8000; omega)
  have bl : Rn Z (binopL .add (.ref r) (.lst [.str w, .str w])) (reps (k + 2) w) Z := by
    show Rn Z (M.bind (seqL (.ref r)) fun xs => M.bind (seqL (.lst [.str w, .str w])) fun ys => if xs.length + ys.length ≤ sizeLine then M.pure (xs ++ ys) else M.bad) _ _
    refine Rn_bind (Rn_seqL (xs := reps k w) s.hc) ?_
    show Rn Z (if (reps k w).length + 2 ≤ sizeLine then M.pure (reps k w ++ [.str w, .str w]) else M.bad) _ _
    rw [if_pos (by unfold reps; rw [sizeLine_eq]; simp; omega), show reps k w ++ [D.str w, .str w] = reps (k + 2) w from reps_add k 2 w]
    exact Rn_pure
  unfold envW
  rw [show evS C K (.set 1 (.mkl (.bin .add (.var 1) (.lc (.nm 4) (.tup (.cons (.gfn f) (.cons (.gfn g) .nil))) .nil (.err 100000 (.callv 4 as)))))) [some (.ref 0), some (.ref r), x2, x3, none, x5, x6, x7] = M.bind (M.bind (M.bind ((ev C K (.var 1)).e [some (.ref 0), some (.ref r), x2, x3, none, x5, x6, x7]) fun x => M.bind ((ev C K (.lc (.nm 4) (.tup (.cons (.gfn f) (.cons (.gfn g) .nil))) .nil (.err 100000 (.callv 4 as)))).e [some (.ref 0), some (.ref r), x2, x3, none, x5, x6, x7]) fun y => binopL .add x y) fun xs => alloc (.lst xs)) fun d => setE [some (.ref 0), some (.ref r), x2, x3, none, x5, x6, x7] 1 d from rfl]
  refine Rn_bind (Rn_bind (Rn_bind (a := .ref r) (μ' := Z) ?_ (Rn_bind (a := .lst [.str w, .str w]) (μ' := Z) ?_ bl)) Rn_alloc) (by simp -implicitDefEqProofs [setE]; exact Rn_pure)
  · simp -implicitDefEqProofs [DL.get]
    exact Rn_res (o := .lst (reps k w)) s.hc (fun _ q => nomatch q)
  · rw [ev_lc_e, ev_lc_l]
    have hi : (ev C K (.tup (.cons (.gfn f) (.cons (.gfn g) .nil)))).i [some (.ref 0), some (.ref r), x2, x3, none, x5, x6, x7] = M.pure [.fn f, .fn g] := by simp -implicitDefEqProofs [l2]
    rw [hi, pb, l2, pb]
    exact Rn_bind (Rn_at hlc) Rn_pure
theorem errE {X : Ez} {ρ : DL.Env} {c : Nat} (hM : okM Z) (hC : C 100000 = errC exs e0) (hw : ew c w) (h : (ev C K X).e ρ = throwM c) : At Z ((ev C K (.err 100000 X)).e ρ) (.str w) := by
  rw [ev_err_e, h, hC]
  exact At_errW (okM_clo hM) hw
theorem loopG {tg : Tz} {b : DL.Env → M Out} {ds : List D} (I : Nat → DL.Env → Mem → Prop) (j : Nat) (step : ∀ d ∈ ds, ∀ k ρ Z, k ≤ 200 → I k ρ Z → ∃ ρ' Z', Rn Z (M.bind (M.opt (bindT tg d ρ)) b) (.nx ρ') Z' ∧ I (k + j) ρ' Z') :
    ∀ k ρ Z, k + j * ds.length ≤ 200 → I k ρ Z → ∃ ρ' Z', Rn Z (forGo tg b ds ρ) (.nx ρ') Z' ∧ I (k + j * ds.length) ρ' Z' := by
  induction ds with
  | nil => exact fun k ρ Z _ h => ⟨ρ, Z, Rn_pure, h⟩
  | cons d ds ih =>
    intro k ρ Z hk h
    rw [List.length_cons, Nat.mul_succ] at hk
    obtain ⟨ρ1, M1, h1, h2⟩ := step d List.mem_cons_self k ρ Z (by omega) h
    obtain ⟨ρ2, M2, h3, h4⟩ := ih (fun e he => step e (List.mem_cons_of_mem _ he)) (k + j) ρ1 M1 (by omega) h2
    refine ⟨ρ2, M2, Rn_forCons h1 h3, ?_⟩
    rw [List.length_cons, Nat.mul_succ, show k + (j * ds.length + j) = k + j + j * ds.length from by omega]
    exact h4
end
def IW (μ : Mem) (w : Str) (k : Nat) (ρ : DL.Env) (Z : Mem) : Prop := ∃ r x2 x3 x5 x6 x7, ρ = envW r x2 x3 x5 x6 x7 ∧ St μ Z r k w
theorem Rn_cons {C : Nat → List D → M D} {K : Nat → D} {s ss : Sz} {ρ ρ' : DL.Env} {μ μ' μ2 : Mem} {o : Out} (h : Rn μ (evS C K s ρ) (.nx ρ') μ') (h2 : Rn μ' (evS C K ss ρ') o μ2) : Rn μ (evS C K (.cons s ss) ρ) o μ2 := Rn_bind h h2
theorem Rn_nil {C : Nat → List D → M D} {K : Nat → D} {ρ : DL.Env} {μ : Mem} : Rn μ (evS C K .nil ρ) (.nx ρ) μ := Rn_pure
/-! ### players beyond the line -/
theorem allp {C : Nat → List D → M D} {K : Nat → D} {c e : Ez} {tg : Tz} {ρ : DL.Env} (N : Int) (ps : List Int) (h : ∀ p ∈ ps, lcTurn tg (ev C K c).t (ev C K e).e ρ (.int p) = M.pure (some (.bl (decide (p < N))))) : lcGo (ps.map D.int) (lcTurn tg (ev C K c).t (ev C K e).e ρ) = M.pure ((ps.map fun p => decide (p < N)).map D.bl) := by
  induction ps with
  | nil => rfl
  | cons x xs ih =>
    rw [List.map_cons]
    show M.bind _ (fun o => M.bind (lcGo (xs.map D.int) _) _) = _
    rw [h x List.mem_cons_self, pb, ih fun y hy => h y (List.mem_cons_of_mem _ hy), pb]
    rfl
section
variable (n : Nat) {k m : Int} {ps : List Int} (hk : 2 ≤ k ∧ k ≤ 10) (hm : 0 ≤ m ∧ m ≤ 30) (pl : Pl 30 ps) (hb : badN m ps = none)
include hk hm pl hb
theorem no13p {hats : List Int} (hl : 1 ≤ hats.length ∧ hats.length ≤ 30) (hc : ∀ x ∈ hats, 0 ≤ x ∧ x < k) (hp : ((ps.map fun p => decide (p < (hats.length : Int))).all id) = false) : F (n + 4) 13 [.int k, .int m, tI ps, tI hats] = throwM 1 := by
  have e1 := need_sure n pl hk hm hb
  have e2 := is_tuple_of (n + 2) (tI hats) 1 30 rfl
  rw [show tupB 1 30 (tI hats) = true from decide_eq_true (by rw [List.length_map]; omega)] at e2
  have e3 := colours (n + 1) (k := k) (hs := hats) (by omega) hc
  have rt : res (tI ps) = M.pure (tI ps) := rfl
  have rh : res (tI hats) = M.pure (tI hats) := rfl
  have st : still (tI ps) = M.pure (ps.map D.int) := rfl
  have hlen : seqA (tI hats) = M.pure (hats.map D.int) := rfl
  have hll : (hats.map D.int).length = hats.length := List.length_map ..
  have hlp : lenOk (ps.map D.int) = M.pure (ps.map D.int) := lenOk_le (by rw [List.length_map]; have := pl.len (by decide); omega)
  have hlc := allp (C := tabF (kcOf ks) tx (n + 3)) (K := kcOf ks) (c := .nil) (e := .cmp .lt (.var 4) (.bf .len (.cons (.var 3) .nil))) (tg := .nm 4) (ρ := [some (.int k), some (.int m), some (tI ps), some (tI hats), none, none, none]) (hats.length : Int) ps (fun p hp => by
    generalize tI ps = T at *
    generalize tI hats = HT at *
    generalize hats.map D.int = hD at *
    simp -implicitDefEqProofs [lcTurn, wipeE, Tz.slots, bindT, DL.get, rh, hlen, hll])
  have al := all_map (ps.map fun p => decide (p < (hats.length : Int)))
  rw [hp] at al
  unfold F at *
  rw [call_at (d := d13) rfl rfl _ rfl, run_eq, eb13]
  have hN : d13.N.length = 7 := rfl
  rw [hN]
  generalize (ps.map fun p => decide (p < (hats.length : Int))).map D.bl = zb at *
  generalize ps.map D.int = pD at *
  generalize hats.map D.int = hD at *
  generalize tI ps = T at *
  generalize tI hats = HT at *
  generalize lb13 = B at *
  unfold lc13
  simp -implicitDefEqProofs [evS, DL.get, setE, k0, rt, rh, st, e1, e2, e3, hlp, hlc, al]
theorem no19p {heard hs : List Int} (hl : heard.length < 30 ∧ (hs.length : Int) < m ∧ heard.length + 1 + hs.length ≤ 30) (hc : ∀ x ∈ heard, 0 ≤ x ∧ x < k) (hc2 : ∀ x ∈ hs, 0 ≤ x ∧ x < k) (hp : ((ps.map fun p => decide (p < (heard.length : Int) + 1 + (hs.length : Int))).all id) = false) : F (n + 4) 19 [.int k, .int m, tI ps, tI heard, tI hs] = throwM 1 := by
  have e1 := need_sure n pl hk hm hb
  have e2 := colours (n + 1) (k := k) (hs := heard) (by omega) hc
  have e3 := colours (n + 1) (k := k) (hs := hs) (by omega) hc2
  have rt : res (tI ps) = M.pure (tI ps) := rfl
  have rh : res (tI heard) = M.pure (tI heard) := rfl
  have rs : res (tI hs) = M.pure (tI hs) := rfl
  have st : still (tI ps) = M.pure (ps.map D.int) := rfl
  have h1 : seqA (tI heard) = M.pure (heard.map D.int) := rfl
  have h2 : (heard.map D.int).length = heard.length := List.length_map ..
  have h3 : seqA (tI hs) = M.pure (hs.map D.int) := rfl
  have h4 : (hs.map D.int).length = hs.length := List.length_map ..
  have c1 : decide (30 ≤ (heard.length : Int)) = false := decide_eq_false (by omega)
  have c2 : decide (m < (hs.length : Int)) = false := decide_eq_false (by omega)
  have c3 : decide (30 < (heard.length : Int) + 1 + (hs.length : Int)) = false := decide_eq_false (by omega)
  have c4 : decide ((hs.length : Int) < m) = true := decide_eq_true hl.2.1
  have hlp : lenOk (ps.map D.int) = M.pure (ps.map D.int) := lenOk_le (by rw [List.length_map]; have := pl.len (by decide); omega)
  have hlc := allp (C := tabF (kcOf ks) tx (n + 3)) (K := kcOf ks) (c := .nil) (e := .cmp .lt (.var 6) (.var 5)) (tg := .nm 6) (ρ := [some (.int k), some (.int m), some (tI ps), some (tI heard), some (tI hs), some (.int ((heard.length : Int) + 1 + (hs.length : Int))), none]) ((heard.length : Int) + 1 + (hs.length : Int)) ps (fun p hp => by
    generalize tI ps = T at *
    generalize tI heard = HE at *
    generalize tI hs = HS at *
    simp -implicitDefEqProofs [lcTurn, wipeE, Tz.slots, bindT, DL.get])
  have al := all_map (ps.map fun p => decide (p < (heard.length : Int) + 1 + (hs.length : Int)))
  rw [hp] at al
  unfold F at *
  rw [call_at (d := d19) rfl rfl _ rfl, run_eq, eb19]
  have hN : d19.N.length = 7 := rfl
  rw [hN]
  generalize (ps.map fun p => decide (p < (heard.length : Int) + 1 + (hs.length : Int))).map D.bl = zb at *
  generalize ps.map D.int = pD at *
  generalize heard.map D.int = hD at *
  generalize hs.map D.int = sD at *
  generalize heard.length = hL at *
  generalize hs.length = sL at *
  generalize tI ps = T at *
  generalize tI heard = HE at *
  generalize tI hs = HS at *
  unfold lc19
  simp -implicitDefEqProofs [-decide_eq_true_eq, -decide_eq_false_iff_not, evS, DL.get, setE, k0, rt, rh, rs, st, e1, e2, e3, hlp, h1, h2, h3, h4, c1, c2, c3, c4, hlc, al]
end
end Row
namespace Row
open PySem DL
def rows1 : List D := [.tup [.non, .int 1], .tup [.int 0, .int 1], .tup [.int 31, .int 1], .tup [.bl true, .int 1], .tup [.int 5, .non], .tup [.int 5, .int (-1)], .tup [.int 5, .int 31], .tup [.int 5, .bl true]]
def rows2 : List D := [.tup [.non, .int 1], .tup [.int 1, .int 1], .tup [.int 11, .int 1], .tup [.bl true, .int 1], .tup [.int 2, .non], .tup [.int 2, .int (-1)], .tup [.int 2, .int 31]]
def rows5 : List D := [.non, .tup [.int 5], .tup [.int 2, .int 1], .tup [.int 1, .int 1], .lst [.int 1], .tup [.bl true], .tup [.int (-1)], .int 1]
def rows6 : List D := [.non, .tup [.int 30], .tup [.int 0], .tup [.int 1, .int 2], .lst [.int 1], .tup [.bl true]]
def rows11 : List D := [.non, .tup [.int 2], .lst [.int 0], .tup [.bl true], .tup [.int (-1)], .int 0, .tup (List.replicate 31 (.int 0)), .tup [.non]]
theorem l8 (a b c d e f g h : D) : lenOk [a, b, c, d, e, f, g, h] = M.pure [a, b, c, d, e, f, g, h] := lenOk_le (by show 8 ≤ 8000; omega)
theorem l7 (a b c d e f g : D) : lenOk [a, b, c, d, e, f, g] = M.pure [a, b, c, d, e, f, g] := lenOk_le (by show 7 ≤ 8000; omega)
theorem neg1 : negop (.int 1) = M.pure (.int (-1)) := rfl
theorem mulz {k : Nat} (h : 2 ≤ k ∧ k ≤ 1000) : binop .mul (.tup [.int 0]) (.int k) = M.pure (.tup (List.replicate k (.int 0))) := by
  show (if (k : Int) = 1 then M.pure (D.tup [.int 0]) else if [D.int 0].isEmpty = false ∧ (2 ≤ (k : Int) ∧ (k : Int) ≤ 1000) ∧ [D.int 0].length ≤ 1000 then M.pure (.tup (List.replicate (k : Int).toNat [D.int 0]).flatten) else M.bad) = _
  have e : (List.replicate k [D.int 0]).flatten = List.replicate k (D.int 0) := by
    clear h
    induction k with
    | zero => rfl
    | succ k ih => rw [List.replicate_succ, List.flatten_cons, ih]; rfl
  rw [if_neg (by omega), if_pos ⟨rfl, by omega, by show 1 ≤ 1000; omega⟩, Int.toNat_natCast, e]
section
variable {C : Nat → List D → M D} {K : Nat → D} (ρ : DL.Env)
theorem i1 : (ev C K jt1).i ρ = M.pure rows1 := by
  have ll := l8
  simp -implicitDefEqProofs [jt1, rows1, ll, neg1]
theorem i2 : (ev C K jt2).i ρ = M.pure rows2 := by
  have ll := l7
  simp -implicitDefEqProofs [jt2, rows2, ll, neg1]
theorem i5 : (ev C K jt5).i ρ = M.pure rows5 := by
  have ll := l8
  simp -implicitDefEqProofs [jt5, rows5, ll, neg1]
theorem i6 : (ev C K jt6).i ρ = M.pure rows6 := by
  have ll := l6
  simp -implicitDefEqProofs [jt6, rows6, ll]
theorem i11 : (ev C K jt11).i ρ = M.pure rows11 := by
  have ll := l8
  have m := mulz (k := 31) (by decide)
  have m : binop .mul (.tup [.int 0]) (.int 31) = M.pure (.tup (List.replicate 31 (.int 0))) := m
  unfold rows11
  generalize List.replicate 31 (D.int 0) = z at *
  simp -implicitDefEqProofs [jt11, ll, neg1, m]
end
def c22 (d : D) : Bool := match d with
  | .tup [a, b] => dat a && (dat b && (!whB 1 30 a || (whB 1 30 a && !whB 0 30 b)))
  | _ => false
def c14 (d : D) : Bool := match d with
  | .tup [a, b] => dat a && (dat b && (!whB 2 10 a || (whB 2 10 a && !whB 0 30 b)))
  | _ => false
theorem c22_of {d : D} (h : c22 d = true) : ∃ a b, d = .tup [a, b] ∧ dat a = true ∧ dat b = true ∧ (whB 1 30 a = false ∨ (whB 1 30 a = true ∧ whB 0 30 b = false)) := by
  unfold c22 at h
  split at h
  · simp only [Bool.and_eq_true, Bool.or_eq_true, Bool.not_eq_true'] at h
    exact ⟨_, _, rfl, h.1, h.2.1, h.2.2⟩
  · cases h
theorem c14_of {d : D} (h : c14 d = true) : ∃ a b, d = .tup [a, b] ∧ dat a = true ∧ dat b = true ∧ (whB 2 10 a = false ∨ (whB 2 10 a = true ∧ whB 0 30 b = false)) := by
  unfold c14 at h
  split at h
  · simp only [Bool.and_eq_true, Bool.or_eq_true, Bool.not_eq_true'] at h
    exact ⟨_, _, rfl, h.1, h.2.1, h.2.2⟩
  · cases h
section
variable (n : Nat) {μ : Mem}
theorem hC : tabF (kcOf ks) tx (n + 7) 100000 = errC exs e0 := call_err rfl
theorem turn1 {d : D} (hd : c22 d = true) {k : Nat} {ρ : DL.Env} {Z : Mem} (hk : k ≤ 200) (h : IW μ "number" k ρ Z) : ∃ ρ' Z', Rn Z (M.bind (M.opt (bindT (.tp (.cons (.nm 2) (.cons (.nm 3) .nil))) d ρ)) (evS (F (n + 7)) (kcOf ks) lz1)) (.nx ρ') Z' ∧ IW μ "number" (k + 4) ρ' Z' := by
  obtain ⟨a, b, rfl, ha, hb, hh⟩ := c22_of hd
  obtain ⟨r, x2, x3, x5, x6, x7, rfl, s⟩ := h
  obtain ⟨t1, t2⟩ := no22 (n + 4) ha hb hh
  obtain ⟨t3, t4⟩ := thr3 (n + 3) (v := .non) rfl ha hb (no4 (n + 3) ha hb rfl hh)
  have ra := res_dat ha
  have rb := res_dat hb
  have s1 := St.new (w := "number") s.ok s.pre (k + 2)
  have s2 := St.new (w := "number") s1.ok s1.pre (k + 2 + 2)
  refine ⟨_, _, ?_, _, some a, some b, x5, x6, x7, rfl, s2⟩
  have hbd : M.opt (bindT (.tp (.cons (.nm 2) (.cons (.nm 3) .nil))) (.tup [a, b]) (envW r x2 x3 x5 x6 x7)) = M.pure (envW r (some a) (some b) x5 x6 x7) := rfl
  rw [hbd, pb]
  unfold F at *
  refine Rn_cons (s_lc s (by omega) (c := 0) (hC n) (.inl ⟨rfl, rfl⟩) ?_ ?_) (Rn_cons (s_lc s1 (by omega) (c := 0) (hC n) (.inl ⟨rfl, rfl⟩) ?_ ?_) Rn_nil)
  · simp -implicitDefEqProofs [DL.get, ra, rb, t1]
  · simp -implicitDefEqProofs [DL.get, ra, rb, t2]
  · simp -implicitDefEqProofs [DL.get, ra, rb, t3]
  · simp -implicitDefEqProofs [DL.get, ra, rb, t4]
theorem turn2' {d : D} (hd : c14 d = true) {k : Nat} {ρ : DL.Env} {Z : Mem} (hk : k ≤ 200) (h : IW μ "number" k ρ Z) : ∃ ρ' Z', Rn Z (M.bind (M.opt (bindT (.tp (.cons (.nm 5) (.cons (.nm 3) .nil))) d ρ)) (evS (F (n + 7)) (kcOf ks) lz2)) (.nx ρ') Z' ∧ IW μ "number" (k + 2) ρ' Z' := by
  obtain ⟨a, b, rfl, ha, hb, hh⟩ := c14_of hd
  obtain ⟨r, x2, x3, x5, x6, x7, rfl, s⟩ := h
  have e := no14 (n + 3) (v := .non) ha hb rfl hh
  have t1 := thr19 (n + 3) (h1 := .non) (h2 := .non) rfl ha hb e
  have t2 := thr13 (n + 3) (h1 := .non) rfl ha hb e
  have ra := res_dat ha
  have rb := res_dat hb
  have s1 := s.app
  have s2 := s1.app
  refine ⟨_, _, ?_, _, x2, some b, some a, x6, x7, rfl, s2⟩
  have hbd : M.opt (bindT (.tp (.cons (.nm 5) (.cons (.nm 3) .nil))) (.tup [a, b]) (envW r x2 x3 x5 x6 x7)) = M.pure (envW r x2 (some b) (some a) x6 x7) := rfl
  rw [hbd, pb]
  unfold F at *
  refine Rn_cons (s_app s (by omega) (errE s.ok (hC n) (.inl ⟨rfl, rfl⟩) ?_)) (Rn_cons (s_app s1 (by omega) (errE s1.ok (hC n) (.inl ⟨rfl, rfl⟩) ?_)) Rn_nil)
  · unfold envW
    simp -implicitDefEqProofs [DL.get, ra, rb, t1]
  · unfold envW
    simp -implicitDefEqProofs [DL.get, ra, rb, t2]
theorem turn5 {d : D} (h1 : okF d = true) (h2 : setB 5 d = false) {k : Nat} {ρ : DL.Env} {Z : Mem} (hk : k ≤ 200) (h : IW μ "set" k ρ Z) : ∃ ρ' Z', Rn Z (M.bind (M.opt (bindT (.nm 6) d ρ)) (evS (F (n + 7)) (kcOf ks) lz5)) (.nx ρ') Z' ∧ IW μ "set" (k + 2) ρ' Z' := by
  obtain ⟨r, x2, x3, x5, x6, x7, rfl, s⟩ := h
  obtain ⟨t1, t2⟩ := thr3 (n + 3) (a := .int 5) (b := .int 1) (v := d) (okF_d h1) rfl rfl (no4s (n + 3) (by decide) (by decide) h1 h2)
  have rd := res_dat (okF_d h1)
  have s1 := St.new (w := "set") s.ok s.pre (k + 2)
  refine ⟨_, _, ?_, _, x2, x3, x5, some d, x7, rfl, s1⟩
  have hbd : M.opt (bindT (.nm 6) d (envW r x2 x3 x5 x6 x7)) = M.pure (envW r x2 x3 x5 (some d) x7) := rfl
  rw [hbd, pb]
  unfold F at *
  refine Rn_cons (s_lc s (by omega) (c := 1) (hC n) (.inr (.inl ⟨rfl, rfl⟩)) ?_ ?_) Rn_nil
  · simp -implicitDefEqProofs [DL.get, rd, t1]
  · simp -implicitDefEqProofs [DL.get, rd, t2]
theorem turn6 {d : D} (hd : dat d = true) (e : F (n + 6) 14 [.int 2, .int 1, d] = throwM 1) {k : Nat} {ρ : DL.Env} {Z : Mem} (hk : k ≤ 200) (h : IW μ "set" k ρ Z) : ∃ ρ' Z', Rn Z (M.bind (M.opt (bindT (.nm 6) d ρ)) (evS (F (n + 7)) (kcOf ks) lz6)) (.nx ρ') Z' ∧ IW μ "set" (k + 2) ρ' Z' := by
  obtain ⟨r, x2, x3, x5, x6, x7, rfl, s⟩ := h
  have t1 := thr19 (n + 3) (a := .int 2) (b := .int 1) (h1 := .non) (h2 := .non) hd rfl rfl e
  have t2 := thr13 (n + 3) (a := .int 2) (b := .int 1) (h1 := .non) hd rfl rfl e
  have rd := res_dat hd
  have s1 := s.app
  have s2 := s1.app
  refine ⟨_, _, ?_, _, x2, x3, x5, some d, x7, rfl, s2⟩
  have hbd : M.opt (bindT (.nm 6) d (envW r x2 x3 x5 x6 x7)) = M.pure (envW r x2 x3 x5 (some d) x7) := rfl
  rw [hbd, pb]
  unfold F at *
  refine Rn_cons (s_app s (by omega) (errE s.ok (hC n) (.inr (.inl ⟨rfl, rfl⟩)) ?_)) (Rn_cons (s_app s1 (by omega) (errE s1.ok (hC n) (.inr (.inl ⟨rfl, rfl⟩)) ?_)) Rn_nil)
  · unfold envW
    simp -implicitDefEqProofs [DL.get, rd, t1]
  · unfold envW
    simp -implicitDefEqProofs [DL.get, rd, t2]
theorem turn11 {d : D} (hd : dat d = true) (t1 : F (n + 7) 13 [.int 2, .int 1, .tup [], d] = throwM 2) (t2 : F (n + 7) 19 [.int 2, .int 1, .tup [], d, .tup []] = throwM 2) (t3 : F (n + 7) 19 [.int 2, .int 1, .tup [], .tup [], d] = throwM 2) {k : Nat} {ρ : DL.Env} {Z : Mem} (hk : k ≤ 200) (h : IW μ "hats" k ρ Z) : ∃ ρ' Z', Rn Z (M.bind (M.opt (bindT (.nm 7) d ρ)) (evS (F (n + 7)) (kcOf ks) lz11)) (.nx ρ') Z' ∧ IW μ "hats" (k + 3) ρ' Z' := by
  obtain ⟨r, x2, x3, x5, x6, x7, rfl, s⟩ := h
  have rd := res_dat hd
  have s1 := s.app
  have s2 := s1.app
  have s3 := s2.app
  refine ⟨_, _, ?_, _, x2, x3, x5, x6, some d, rfl, s3⟩
  have hbd : M.opt (bindT (.nm 7) d (envW r x2 x3 x5 x6 x7)) = M.pure (envW r x2 x3 x5 x6 (some d)) := rfl
  rw [hbd, pb]
  unfold F at *
  refine Rn_cons (s_app s (by omega) (errE s.ok (hC n) (.inr (.inr ⟨rfl, rfl⟩)) ?_)) (Rn_cons (s_app s1 (by omega) (errE s1.ok (hC n) (.inr (.inr ⟨rfl, rfl⟩)) ?_)) (Rn_cons (s_app s2 (by omega) (errE s2.ok (hC n) (.inr (.inr ⟨rfl, rfl⟩)) ?_)) Rn_nil))
  · unfold envW
    simp -implicitDefEqProofs [DL.get, rd, t1]
  · unfold envW
    simp -implicitDefEqProofs [DL.get, rd, t2]
  · unfold envW
    simp -implicitDefEqProofs [DL.get, rd, t3]
theorem app1 {w : Str} {c : Nat} (hw : ew c w) {X : Ez} (hX : ∀ ρ, (ev (F (n + 7)) (kcOf ks) X).e ρ = throwM c) {k : Nat} {ρ : DL.Env} {Z : Mem} (hk : k ≤ 200) (h : IW μ w k ρ Z) : ∃ ρ' Z', Rn Z (evS (F (n + 7)) (kcOf ks) (.app (.var 1) (.err 100000 X)) ρ) (.nx ρ') Z' ∧ IW μ w (k + 1) ρ' Z' := by
  obtain ⟨r, x2, x3, x5, x6, x7, rfl, s⟩ := h
  have s1 := s.app
  exact ⟨_, _, s_app s (by omega) (errE s.ok (hC n) hw (hX _)), _, x2, x3, x5, x6, x7, rfl, s1⟩
end
theorem pl3 : Pl 30 [3] := ⟨by decide, by decide⟩
theorem pl0 : Pl 30 [] := ⟨by decide, by decide⟩
theorem rows6_ok (n : Nat) : ∀ d ∈ rows6, dat d = true ∧ F (n + 6) 14 [.int 2, .int 1, d] = throwM 1 := by
  intro d hd
  simp only [rows6, List.mem_cons, List.not_mem_nil, or_false] at hd
  rcases hd with rfl | rfl | rfl | rfl | rfl | rfl
  · exact ⟨rfl, no14s (n + 3) (by decide) (by decide) (by rfl) (by rfl)⟩
  · exact ⟨rfl, no14s (n + 3) (by decide) (by decide) (by rfl) (by decide +kernel)⟩
  · exact ⟨rfl, no14b (n + 3) (p := 0) (ps := [0]) (by decide) (by decide) ⟨by decide, by decide⟩ (by decide +kernel)⟩
  · exact ⟨rfl, no14b (n + 3) (p := 2) (ps := [1, 2]) (by decide) (by decide) ⟨by decide, by decide⟩ (by decide +kernel)⟩
  · exact ⟨rfl, no14s (n + 3) (by decide) (by decide) (by rfl) (by rfl)⟩
  · exact ⟨rfl, no14s (n + 3) (by decide) (by decide) (by rfl) (by decide +kernel)⟩
theorem hats_bad (n : Nat) {d : D} (h : okF d = true) (c : colB 2 d = false) : F (n + 7) 13 [.int 2, .int 1, .tup [], d] = throwM 2 ∧ F (n + 7) 19 [.int 2, .int 1, .tup [], d, .tup []] = throwM 2 ∧ F (n + 7) 19 [.int 2, .int 1, .tup [], .tup [], d] = throwM 2 :=
  ⟨no13h (n + 3) (ps := []) (by decide) (by decide) pl0 (by decide +kernel) h (by rw [c, Bool.and_false]), no19h (n + 3) (ps := []) (by decide) (by decide) pl0 (by decide +kernel) h (by rfl) (by rw [c, Bool.false_and]), no19h (n + 3) (ps := []) (by decide) (by decide) pl0 (by decide +kernel) (by rfl) h (by rw [c, Bool.and_false])⟩
theorem rows11_ok (n : Nat) : ∀ d ∈ rows11, dat d = true ∧ F (n + 7) 13 [.int 2, .int 1, .tup [], d] = throwM 2 ∧ F (n + 7) 19 [.int 2, .int 1, .tup [], d, .tup []] = throwM 2 ∧ F (n + 7) 19 [.int 2, .int 1, .tup [], .tup [], d] = throwM 2 := by
  intro d hd
  simp only [rows11, List.mem_cons, List.not_mem_nil, or_false] at hd
  rcases hd with rfl | rfl | rfl | rfl | rfl | rfl | rfl | rfl
  · exact ⟨rfl, hats_bad n (by rfl) (by rfl)⟩
  · exact ⟨rfl, hats_bad n (by rfl) (by decide +kernel)⟩
  · exact ⟨rfl, hats_bad n (by rfl) (by rfl)⟩
  · exact ⟨rfl, hats_bad n (by rfl) (by decide +kernel)⟩
  · exact ⟨rfl, hats_bad n (by rfl) (by decide +kernel)⟩
  · exact ⟨rfl, hats_bad n (by rfl) (by rfl)⟩
  · have hz : okF (.tup (List.replicate 31 (.int 0))) = true := by decide +kernel
    have hcz : colB 2 (.tup (List.replicate 31 (.int 0))) = true := by decide +kernel
    exact ⟨rfl, no13h (n + 3) (ps := []) (by decide) (by decide) pl0 (by decide +kernel) hz (by decide +kernel), no19l (n + 3) (ps := []) (by decide) (by decide) pl0 (by decide +kernel) hz (by rfl) hcz (by rfl) (.inl (by decide)), no19l (n + 3) (ps := []) (by decide) (by decide) pl0 (by decide +kernel) (by rfl) hz (by rfl) hcz (.inr (.inl (by decide)))⟩
  · exact ⟨rfl, hats_bad n (by rfl) (by decide +kernel)⟩
end Row
namespace Row
open PySem DL
theorem ne_ok {Z : Mem} {r k : Nat} {w : Str} (hc : Z[r]? = some (.lst (reps k w))) (hp : D.plain 60 (.lst (reps k w)) = true) (he : D.eqP (.lst (reps k w)) (.lst (reps k w)) = true) : Rn Z (cmpop .ne (.ref r) (.lst (reps k w))) (.bl false) Z := by
  show Rn Z (M.bind (peek (.ref r)) (fun x => M.bind (peek (.lst (reps k w))) fun y => eqvM x y true)) _ Z
  have h1 : Rn Z (peek (.ref r)) (.lst (reps k w)) Z := by
    unfold Rn peek
    dsimp only
    rw [hc]
  refine Rn_bind h1 (Rn_bind (show Rn Z (peek (.lst (reps k w))) (.lst (reps k w)) Z from rfl) ?_)
  unfold eqvM
  rw [eqv_plain hp hp, he]
  exact Rn_pure
theorem l1 (a : D) : lenOk [a] = M.pure [a] := lenOk_le (by show 1 ≤ 8000; omega)
theorem mulW {w : Str} {k : Nat} (h : k ≤ 1000) : binop .mul (.lst [.str w]) (.int (k : Int)) = M.pure (.lst (reps k w)) := by
  rw [mul_lst ⟨by omega, by omega, by show 1 ≤ 8; omega⟩, Int.toNat_natCast]
  have e : (List.replicate k [D.str w]).flatten = reps k w := by
    clear h
    induction k with
    | zero => rfl
    | succ k ih => rw [List.replicate_succ, List.flatten_cons, ih]; rfl
  rw [e]
theorem chk {C : Nat → List D → M D} {K : Nat → D} {μ : Mem} {w : Str} {k : Nat} (hk : k ≤ 1000) (hp : D.plain 60 (.lst (reps k w)) = true) (he : D.eqP (.lst (reps k w)) (.lst (reps k w)) = true) {ρ : DL.Env} {Z : Mem} (h : IW μ w k ρ Z) : Rn Z (evS C K (.ite (.cmp .ne (.var 1) (.bin .mul (.lst (.cons (.str w) .nil)) (.int (k : Int)))) (.cons (.ret (.bl false)) .nil) .nil) ρ) (.nx ρ) Z := by
  obtain ⟨r, x2, x3, x5, x6, x7, rfl, s⟩ := h
  have ll := l1
  have m := mulW (w := w) hk
  unfold envW
  simp -implicitDefEqProofs [evS, DL.get]
  refine Rn_bind (Rn_res (o := .lst (reps k w)) s.hc (fun _ q => nomatch q)) ?_
  rw [m, pb]
  refine Rn_bind (ne_ok s.hc hp he) ?_
  simp -implicitDefEqProofs
  exact Rn_pure
theorem new_ {C : Nat → List D → M D} {K : Nat → D} {μ Z : Mem} {w w' : Str} {k : Nat} {ρ : DL.Env} (h : IW μ w k ρ Z) : ∃ ρ' Z', Rn Z (evS C K (.set 1 (.mkl (.lst .nil))) ρ) (.nx ρ') Z' ∧ IW μ w' 0 ρ' Z' := by
  obtain ⟨r, x2, x3, x5, x6, x7, rfl, s⟩ := h
  exact ⟨_, _, s_new s.ok s.pre (some (.ref r)) x2 x3 x5 x6 x7, _, x2, x3, x5, x6, x7, rfl, St.new s.ok s.pre 0⟩
theorem for_ {C : Nat → List D → M D} {K : Nat → D} {tg : Tz} {it : Ez} {b : Sz} {ds : List D} {μ Z : Mem} {w : Str} {k j : Nat} {ρ : DL.Env} (hi : ∀ ρ, (ev C K it).i ρ = M.pure ds) (step : ∀ d ∈ ds, ∀ k ρ Z, k ≤ 200 → IW μ w k ρ Z → ∃ ρ' Z', Rn Z (M.bind (M.opt (bindT tg d ρ)) (evS C K b)) (.nx ρ') Z' ∧ IW μ w (k + j) ρ' Z') (hk : k + j * ds.length ≤ 200) (h : IW μ w k ρ Z) : ∃ ρ' Z', Rn Z (evS C K (.for tg it b) ρ) (.nx ρ') Z' ∧ IW μ w (k + j * ds.length) ρ' Z' := by
  obtain ⟨ρ', Z', h1, h2⟩ := loopG (IW μ w) j step k ρ Z hk h
  refine ⟨ρ', Z', ?_, h2⟩
  show Rn Z (M.bind ((ev C K it).i ρ) fun ds => forGo tg (evS C K b) ds ρ) _ _
  rw [hi, pb]
  exact h1
theorem errors_right (n : Nat) {μ : Mem} (hM : okM μ) : At μ (F (n + 8) 26 [.ref 0]) (.bl true) := by
  unfold F
  rw [call_at (d := d26) rfl rfl _ rfl]
  have key : ∃ more, Rn μ (run (tabF (kcOf ks) tx (n + 7)) (kcOf ks) d26.N.length d26.body [.ref 0]) (.bl true) (μ ++ more) := by
    rw [run_eq, eb26]
    have hN : d26.N.length = 8 := rfl
    rw [hN]
    -- numbers
    have a0 : Rn μ (evS (tabF (kcOf ks) tx (n + 7)) (kcOf ks) z0 [some (.ref 0), none, none, none, none, none, none, none]) (.nx (envW μ.length none none none none none)) (μ ++ [.lst (reps 0 "number")]) := s_new (μ := μ) hM ⟨[], by simp⟩ none none none none none none
    have b0 : IW μ "number" 0 (envW μ.length none none none none none) (μ ++ [.lst (reps 0 "number")]) := ⟨_, _, _, _, _, _, rfl, St.new hM ⟨[], by simp⟩ 0⟩
    obtain ⟨ρ1, Z1, a1, b1⟩ := for_ (C := tabF (kcOf ks) tx (n + 7)) (K := kcOf ks) (tg := .tp (.cons (.nm 2) (.cons (.nm 3) .nil))) (b := lz1) (j := 4) i1 (fun d hd k ρ Z hk h => turn1 n (List.all_eq_true.mp (show rows1.all c22 = true by decide +kernel) d hd) hk h) (by decide) b0
    obtain ⟨ρ2, Z2, a2, b2⟩ := for_ (C := tabF (kcOf ks) tx (n + 7)) (K := kcOf ks) (tg := .tp (.cons (.nm 5) (.cons (.nm 3) .nil))) (b := lz2) (j := 2) i2 (fun d hd k ρ Z hk h => turn2' n (List.all_eq_true.mp (show rows2.all c14 = true by decide +kernel) d hd) hk h) (by decide) b1
    have a3 := chk (C := tabF (kcOf ks) tx (n + 7)) (K := kcOf ks) (k := 46) (by decide) (by decide +kernel) (by decide +kernel) b2
    -- sets
    obtain ⟨ρ4, Z4, a4, b4⟩ := new_ (C := tabF (kcOf ks) tx (n + 7)) (K := kcOf ks) (w' := "set") b2
    obtain ⟨ρ5, Z5, a5, b5⟩ := for_ (C := tabF (kcOf ks) tx (n + 7)) (K := kcOf ks) (tg := .nm 6) (b := lz5) (j := 2) i5 (fun d hd k ρ Z hk h => turn5 n (List.all_eq_true.mp (show rows5.all okF = true by decide +kernel) d hd) (by
      have := List.all_eq_true.mp (show rows5.all (fun d => !setB 5 d) = true by decide +kernel) d hd
      simpa using this) hk h) (by decide) b4
    obtain ⟨ρ6, Z6, a6, b6⟩ := for_ (C := tabF (kcOf ks) tx (n + 7)) (K := kcOf ks) (tg := .nm 6) (b := lz6) (j := 2) i6 (fun d hd k ρ Z hk h => turn6 n (rows6_ok n d hd).1 (rows6_ok n d hd).2 hk h) (by decide) b5
    have p7 := no13p (n + 3) (k := 2) (m := 1) (ps := [3]) (by decide) (by decide) pl3 (by decide +kernel) (hats := [0, 0, 0]) (by decide) (by decide) (by decide)
    have p8 := no19p (n + 3) (k := 2) (m := 2) (ps := [3]) (by decide) (by decide) pl3 (by decide +kernel) (heard := [0]) (hs := [1]) (by decide) (by decide) (by decide) (by decide)
    have p7 : tabF (kcOf ks) tx (n + 7) 13 [.int 2, .int 1, .tup [.int 3], .tup [.int 0, .int 0, .int 0]] = throwM 1 := p7
    have p8 : tabF (kcOf ks) tx (n + 7) 19 [.int 2, .int 2, .tup [.int 3], .tup [.int 0], .tup [.int 1]] = throwM 1 := p8
    have ll1 := l1
    have ll3 := l3e
    obtain ⟨ρ7, Z7, a7, b7⟩ := app1 n (w := "set") (c := 1) (.inr (.inl ⟨rfl, rfl⟩)) (X := (.call 13 (.cons (.int 2) (.cons (.int 1) (.cons (.tup (.cons (.int 3) .nil)) (.cons (.tup (.cons (.int 0) (.cons (.int 0) (.cons (.int 0) .nil)))) .nil)))))) (fun ρ => by
      unfold F
      simp -implicitDefEqProofs [ll1, ll3, p7]) (by decide) b6
    obtain ⟨ρ8, Z8, a8, b8⟩ := app1 n (w := "set") (c := 1) (.inr (.inl ⟨rfl, rfl⟩)) (X := (.call 19 (.cons (.int 2) (.cons (.int 2) (.cons (.tup (.cons (.int 3) .nil)) (.cons (.tup (.cons (.int 0) .nil)) (.cons (.tup (.cons (.int 1) .nil)) .nil))))))) (fun ρ => by
      unfold F
      simp -implicitDefEqProofs [ll1, p8]) (by decide) b7
    have a9 := chk (C := tabF (kcOf ks) tx (n + 7)) (K := kcOf ks) (k := 30) (by decide) (by decide +kernel) (by decide +kernel) b8
    -- hats
    obtain ⟨ρ10, Z10, a10, b10⟩ := new_ (C := tabF (kcOf ks) tx (n + 7)) (K := kcOf ks) (w' := "hats") b8
    obtain ⟨ρ11, Z11, a11, b11⟩ := for_ (C := tabF (kcOf ks) tx (n + 7)) (K := kcOf ks) (tg := .nm 7) (b := lz11) (j := 3) i11 (fun d hd k ρ Z hk h => turn11 n (rows11_ok n d hd).1 (rows11_ok n d hd).2.1 (rows11_ok n d hd).2.2.1 (rows11_ok n d hd).2.2.2 hk h) (by decide) b10
    have p12 := no19l (n + 3) (k := 2) (m := 1) (ps := []) (by decide) (by decide) pl0 (by decide +kernel) (xs := []) (ys := [.int 0, .int 0]) (by rfl) (by rfl) (by rfl) (by decide +kernel) (.inr (.inl (by decide)))
    have p13 := no19l (n + 3) (k := 2) (m := 3) (ps := []) (by decide) (by decide) pl0 (by decide +kernel) (xs := List.replicate 28 (.int 0)) (ys := [.int 0, .int 0]) (by decide +kernel) (by rfl) (by decide +kernel) (by decide +kernel) (.inr (.inr (by decide)))
    have p14 := no13h (n + 3) (k := 2) (m := 1) (ps := []) (by decide) (by decide) pl0 (by decide +kernel) (h := .tup []) (by rfl) (by rfl)
    have p12 : tabF (kcOf ks) tx (n + 7) 19 [.int 2, .int 1, .tup [], .tup [], .tup [.int 0, .int 0]] = throwM 2 := p12
    have p13 : tabF (kcOf ks) tx (n + 7) 19 [.int 2, .int 3, .tup [], .tup (List.replicate 28 (.int 0)), .tup [.int 0, .int 0]] = throwM 2 := p13
    have p14 : tabF (kcOf ks) tx (n + 7) 13 [.int 2, .int 1, .tup [], .tup []] = throwM 2 := p14
    have m28 : binop .mul (.tup [.int 0]) (.int 28) = M.pure (.tup (List.replicate 28 (.int 0))) := mulz (k := 28) (by decide)
    obtain ⟨ρ12, Z12, a12, b12⟩ := app1 n (w := "hats") (c := 2) (.inr (.inr ⟨rfl, rfl⟩)) (X := (.call 19 (.cons (.int 2) (.cons (.int 1) (.cons (.tup .nil) (.cons (.tup .nil) (.cons (.tup (.cons (.int 0) (.cons (.int 0) .nil))) .nil))))))) (fun ρ => by
      unfold F
      simp -implicitDefEqProofs [p12]) (by decide) b11
    obtain ⟨ρ13, Z13, a13, b13⟩ := app1 n (w := "hats") (c := 2) (.inr (.inr ⟨rfl, rfl⟩)) (X := (.call 19 (.cons (.int 2) (.cons (.int 3) (.cons (.tup .nil) (.cons (.bin .mul (.tup (.cons (.int 0) .nil)) (.int 28)) (.cons (.tup (.cons (.int 0) (.cons (.int 0) .nil))) .nil))))))) (fun ρ => by
      unfold F
      generalize List.replicate 28 (D.int 0) = z28 at *
      simp -implicitDefEqProofs [ll1, m28, p13]) (by decide) b12
    obtain ⟨ρ14, Z14, a14, b14⟩ := app1 n (w := "hats") (c := 2) (.inr (.inr ⟨rfl, rfl⟩)) (X := (.call 13 (.cons (.int 2) (.cons (.int 1) (.cons (.tup .nil) (.cons (.tup .nil) .nil)))))) (fun ρ => by
      unfold F
      simp -implicitDefEqProofs [p14]) (by decide) b13
    obtain ⟨r, x2, x3, x5, x6, x7, rfl, s⟩ := b14
    obtain ⟨l, hZ⟩ := s.pre
    have a15 : Rn Z14 (evS (tabF (kcOf ks) tx (n + 7)) (kcOf ks) (.cons z15 .nil) (envW r x2 x3 x5 x6 x7)) (.rt (.bl true)) (Z14.set r (.fro (.lst (reps 27 "hats")))) := by
      have fz := Rn_frz (μ := Z14) (n := r) (xs := reps 27 "hats") s.hc
      have m : binop .mul (.lst [.str "hats"]) (.int 27) = M.pure (.lst (reps 27 "hats")) := mulW (k := 27) (by decide)
      have e : cmpop .eq (.lst (reps 27 "hats")) (.lst (reps 27 "hats")) = M.pure (.bl true) := by
        rw [eq_plain (by decide +kernel) (by decide +kernel), show D.eqP (.lst (reps 27 "hats")) (.lst (reps 27 "hats")) = true from by decide +kernel]
      unfold envW
      simp -implicitDefEqProofs [z15, evS, DL.get]
      refine Rn_bind fz ?_
      rw [m, pb, e, pb]
      exact Rn_pure
    refine ⟨l.set (r - μ.length) (.fro (.lst (reps 27 "hats"))), ?_⟩
    rw [← List.set_append_right _ _ s.hr, ← hZ]
    exact Rn_bind (Rn_cons a0 (Rn_cons a1 (Rn_cons a2 (Rn_cons a3 (Rn_cons a4 (Rn_cons a5 (Rn_cons a6 (Rn_cons a7 (Rn_cons a8 (Rn_cons a9 (Rn_cons a10 (Rn_cons a11 (Rn_cons a12 (Rn_cons a13 (Rn_cons a14 a15))))))))))))))) Rn_pure
  obtain ⟨more, h⟩ := key
  exact At_popN (okM_clo hM) rfl h
end Row
namespace Row
open PySem DL
def lu2 : Sz := (.cons (.ite (.bool .And (.cons (.cmp .eq (.call 23 (.cons (.var 1) (.cons (.int 2) .nil))) (.int 0)) (.cons (.cmp .isN (.call 2 (.cons (.var 4) (.cons (.bin .add (.var 6) (.lst (.cons (.var 7) .nil))) .nil))) .non) .nil))) (.cons (.app (.var 6) (.var 7)) .nil) .nil) .nil)
def lu3 : Ez := (.lc (.nm 7) (.range1 (.var 3)) (.cmp .eq (.call 23 (.cons (.var 1) (.cons (.int 2) .nil))) (.int 0)) (.var 7))
def lu6 : Ez := (.lc (.nm 7) (.range1 (.var 3)) .nil (.call 23 (.cons (.var 1) (.cons (.var 5) .nil))))
def u0 : Sz := (.tset (.cons (.nm 3) (.cons (.nm 4) (.cons (.nm 5) .nil))) (.tup (.cons (.bin .add (.int 1) (.call 23 (.cons (.var 1) (.cons (.int 30) .nil)))) (.cons (.call 27 (.cons (.var 1) (.cons (.lst (.cons (.int 0) (.cons (.int 1) (.cons (.int 2) (.cons (.int 3) (.cons (.call 23 (.cons (.var 1) (.cons (.int 31) .nil))) .nil)))))) .nil))) (.cons (.bin .add (.int 2) (.call 23 (.cons (.var 1) (.cons (.int 9) .nil)))) .nil)))))
def u1 : Sz := (.set 6 (.mkl (.lst .nil)))
def u2 : Sz := (.for (.nm 7) (.range1 (.var 3)) lu2)
def u3 : Sz := (.set 8 (.bf .tuple (.cons lu3 .nil)))
def u4 : Sz := (.set 9 (.call 2 (.cons (.var 4) (.cons (.var 8) .nil))))
def u5 : Sz := (.ite (.not (.call 11 (.cons (.lst (.cons (.call 3 (.cons (.var 3) (.cons (.var 4) (.cons (.var 8) .nil)))) (.cons (.call 10 (.cons (.var 3) (.cons (.var 4) (.cons (.var 8) .nil)))) .nil))) (.cons (.lst (.cons (.cmp .isN (.var 9) .non) (.cons (.var 9) .nil))) .nil)))) (.cons (.ret (.bl false)) .nil) .nil)
def u6 : Sz := (.ite (.not (.call 24 (.cons (.var 1) (.cons (.var 5) (.cons (.var 4) (.cons (.bf .tuple (.cons (.var 6) .nil)) (.cons (.bf .tuple (.cons lu6 .nil)) .nil))))))) (.cons (.ret (.bl false)) .nil) .nil)
theorem elq1 : lq1 = (.cons u0 (.cons u1 (.cons u2 (.cons u3 (.cons u4 (.cons u5 (.cons u6 .nil))))))) := rfl
theorem some_ (n : Nat) {μ : Mem} {is : List Int} {Q : D → Mem → Prop} (hc : μ[0]? = some .cup) (hcl : clo μ) (hl : 0 < is.length ∧ is.length ≤ 1000) (hQ : ∀ i ∈ is, Q (.int i) μ) : wp (F (n + 2) 27 [.ref 0, .lst (is.map D.int)]) μ Q := by
  unfold F
  rw [call_at (d := d27) rfl rfl _ rfl]
  refine wp_pop' hcl (wp_mono (Q := fun a μ' => (∃ i ∈ is, a = .int i) ∧ μ' = μ) ?_ fun a μ' h => by
    obtain ⟨⟨i, hi, rfl⟩, rfl⟩ := h
    exact ⟨rfl, ⟨[], by simp⟩, hQ i hi⟩)
  rw [run_eq]
  have rl : tabF (kcOf ks) tx (n + 1) 23 = primRoll := call_roll rfl (by decide)
  simp -implicitDefEqProofs [d27, b27, evS, DL.get, rl]
  refine wp_bind (wp_res hc (fun _ q => nomatch q) (wp_bind (wp_roll hc (by omega) fun r hr => ?_)))
  have hr' : r < is.length := by omega
  have e : L2.atI (is.map D.int) (r : Int) = some (.int is[r]) := by
    refine L2.atI_nat ?_
    rw [List.getElem?_map, List.getElem?_eq_getElem hr']
    rfl
  simp -implicitDefEqProofs [e]
  exact wp_pure ⟨⟨_, List.getElem_mem hr', rfl⟩, rfl⟩
def ints_flat (ps : List Int) : (ps.map D.int).all D.flat = true := flat_ints ps
theorem rngN (N : Nat) (h : N ≤ 1000) : rng1 (.int (N : Int)) = M.pure ((List.range N).map fun (i : Nat) => D.int (i : Int)) := by
  rw [rng1_ok (by omega), Int.toNat_natCast]
theorem rng_get {N i : Nat} {d : D} (h : ((List.range N).map fun (i : Nat) => D.int (i : Int))[i]? = some d) : d = .int (i : Int) ∧ i < N := by
  rw [List.getElem?_map] at h
  cases e : (List.range N)[i]? with
  | none => rw [e] at h; cases h
  | some j =>
    rw [e] at h
    obtain ⟨h1, h2⟩ := List.getElem?_eq_some_iff.mp e
    rw [List.length_range] at h1
    rw [List.getElem_range] at h2
    subst h2
    exact ⟨by simpa using h.symm, h1⟩
def invU (μ : Mem) (x0 x2 x5 x8 x9 x10 : Option D) (N m i : Nat) (ρ : DL.Env) (μ' : Mem) : Prop := ∃ (ps : List Int) (x7 : Option D), Pl i ps ∧ badN m ps = none ∧ ρ = [x0, some (.ref 0), x2, some (.int (N : Int)), some (.int (m : Int)), x5, some (.ref μ.length), x7, x8, x9, x10] ∧ μ' = μ ++ [.lst (ps.map D.int)]
section
variable (n : Nat) {μ : Mem} (hc : μ[0]? = some .cup)
include hc
theorem us0 (hcl : clo μ) (rest : Sz) {x0 x2 x3 x4 x5 x6 x7 x8 x9 x10 : Option D} {Q : Out → Mem → Prop}
    (hQ : ∀ (N m : Nat) (k : Int), (1 ≤ N ∧ N ≤ 30) → m ≤ 30 → (2 ≤ k ∧ k ≤ 10) → wp (evS (F (n + 8)) (kcOf ks) rest [x0, some (.ref 0), x2, some (.int (N : Int)), some (.int (m : Int)), some (.int k), x6, x7, x8, x9, x10]) μ Q) :
    wp (evS (F (n + 8)) (kcOf ks) (.cons u0 rest) [x0, some (.ref 0), x2, x3, x4, x5, x6, x7, x8, x9, x10]) μ Q := by
  have rl : tabF (kcOf ks) tx (n + 8) 23 = primRoll := call_roll rfl (by decide)
  have so : ∀ (r : Nat), r < 31 → ∀ {Q : D → Mem → Prop}, (∀ i : Int, 0 ≤ i → i ≤ 30 → Q (.int i) μ) → wp (tabF (kcOf ks) tx (n + 8) 27 [.ref 0, .lst [.int 0, .int 1, .int 2, .int 3, .int (r : Int)]]) μ Q := fun r hr {Q} h => some_ (n + 6) (is := [0, 1, 2, 3, (r : Int)]) hc hcl (by show 0 < 5 ∧ 5 ≤ 1000; omega) fun i hi => h i (by
    simp only [List.mem_cons, List.not_mem_nil, or_false] at hi
    omega) (by
    simp only [List.mem_cons, List.not_mem_nil, or_false] at hi
    omega)
  have ll := l5
  unfold F at *
  simp -implicitDefEqProofs [u0, evS, DL.get, rl]
  refine wp_bind (wp_res hc (fun _ q => nomatch q) (wp_bind (wp_roll hc (by decide) fun r1 hr1 => ?_)))
  rw [bin_add', pb]
  refine wp_bind (wp_res hc (fun _ q => nomatch q) ?_)
  refine wp_bind (wp_res hc (fun _ q => nomatch q) (wp_bind (wp_roll hc (by decide) fun r2 hr2 => ?_)))
  rw [ll, pb]
  refine wp_bind (so r2 (by omega) fun i h0 h1 => ?_)
  refine wp_bind (wp_res hc (fun _ q => nomatch q) (wp_bind (wp_roll hc (by decide) fun r3 hr3 => ?_)))
  rw [bin_add', pb]
  have e1 : (1 : Int) + (r1 : Int) = ((1 + r1 : Nat) : Int) := by omega
  have e2 : i = ((i.toNat : Nat) : Int) := by omega
  rw [e1, e2]
  have hq := hQ (1 + r1) i.toNat (2 + (r3 : Int)) (by omega) (by omega) (by omega)
  generalize ((1 + r1 : Nat) : Int) = Nn at *
  generalize ((i.toNat : Nat) : Int) = Mm at *
  generalize (2 : Int) + (r3 : Int) = Kk at *
  simp -implicitDefEqProofs [bindT, bindTs]
  exact hq
theorem us2 {x0 x2 x5 x7 x8 x9 x10 : Option D} {N m : Nat} (hN : 1 ≤ N ∧ N ≤ 30) (hm : m ≤ 30) (rest : Sz) {Q : Out → Mem → Prop}
    (hQ : ∀ (ps : List Int) (x7 : Option D), Pl N ps → badN m ps = none → wp (evS (F (n + 8)) (kcOf ks) rest [x0, some (.ref 0), x2, some (.int (N : Int)), some (.int (m : Int)), x5, some (.ref μ.length), x7, x8, x9, x10]) (μ ++ [.lst (ps.map D.int)]) Q) :
    wp (evS (F (n + 8)) (kcOf ks) (.cons u2 rest) [x0, some (.ref 0), x2, some (.int (N : Int)), some (.int (m : Int)), x5, some (.ref μ.length), x7, x8, x9, x10]) (μ ++ [.lst []]) Q := by
  have rl : tabF (kcOf ks) tx (n + 8) 23 = primRoll := call_roll rfl (by decide)
  have hr := rngN N (by omega)
  have hpos : 0 < μ.length := (List.getElem?_eq_some_iff.mp hc).1
  have hcl0 : ∀ ds : List D, (μ ++ [Ob.lst ds])[0]? = some .cup := fun ds => by rw [List.getElem?_append_left hpos]; exact hc
  refine wp_bind (wp_mono (Q := fun o μ' => ∃ (ps : List Int) (x7 : Option D), Pl N ps ∧ badN m ps = none ∧ o = .nx [x0, some (.ref 0), x2, some (.int (N : Int)), some (.int (m : Int)), x5, some (.ref μ.length), x7, x8, x9, x10] ∧ μ' = μ ++ [.lst (ps.map D.int)]) ?_ fun o μ' h => by
    obtain ⟨ps, x7, h1, h2, rfl, rfl⟩ := h
    exact hQ ps x7 h1 h2)
  unfold u2
  show wp (M.bind ((ev (F (n + 8)) (kcOf ks) (.range1 (.var 3))).i _) fun ds => forGo (.nm 7) (evS (F (n + 8)) (kcOf ks) lu2) ds _) _ _
  have hi : (ev (F (n + 8)) (kcOf ks) (.range1 (.var 3))).i [x0, some (.ref 0), x2, some (.int (N : Int)), some (.int (m : Int)), x5, some (.ref μ.length), x7, x8, x9, x10] = M.pure ((List.range N).map fun (i : Nat) => D.int (i : Int)) := by
    simp -implicitDefEqProofs [DL.get, hr]
  rw [hi, pb]
  refine wp_forI (invU μ x0 x2 x5 x8 x9 x10 N m) (fun i d ρ μ' hd hI => ?_) (fun ρ μ' hI => ?_) ⟨[], x7, ⟨.nil, fun p hp => nomatch hp⟩, rfl, rfl, rfl⟩
  · obtain ⟨ps, y7, pl, hb, rfl, rfl⟩ := hI
    obtain ⟨rfl, hiN⟩ := rng_get hd
    have hc1 := hcl0 (ps.map D.int)
    have hln : ps.length ≤ 30 := pl.len (by omega)
    have plmono : Pl (i + 1 : Nat) ps := pl.mono (by omega)
    have plnew : Pl (i + 1 : Nat) (ps ++ [(i : Int)]) := ⟨List.pairwise_append.mpr ⟨pl.asc, List.pairwise_singleton _ _, fun x hx y hy => by
      rw [List.mem_singleton.mp hy]
      exact (pl.bd x hx).2⟩, fun p hp => by
      rcases List.mem_append.mp hp with hp | hp
      · have := pl.bd p hp; omega
      · rw [List.mem_singleton.mp hp]; omega⟩
    have add : Rn (μ ++ [.lst (ps.map D.int)]) (binop .add (.ref μ.length) (.lst [.int (i : Int)])) (.lst ((ps ++ [(i : Int)]).map D.int)) (μ ++ [.lst (ps.map D.int)]) := by
      show Rn _ (M.bind (M.bind (seqL (.ref μ.length)) fun xs => M.bind (seqL (.lst [.int (i : Int)])) fun ys => if xs.length + ys.length ≤ sizeLine then M.pure (xs ++ ys) else M.bad) fun xs => M.pure (D.lst xs)) _ _
      refine Rn_bind (Rn_bind (Rn_seqL (xs := ps.map D.int) getM0) ?_) Rn_pure
      show Rn _ (if (ps.map D.int).length + 1 ≤ sizeLine then M.pure (ps.map D.int ++ [D.int (i : Int)]) else M.bad) _ _
      rw [if_pos (by rw [List.length_map, sizeLine_eq]; omega), List.map_append]
      exact Rn_pure
    have eb := bad2 (n + 7) (t := .lst ((ps ++ [(i : Int)]).map D.int)) (ps := ps ++ [(i : Int)]) (.inr rfl) (m := (m : Int)) (by omega) (fun p hp => by have := plnew.bd p hp; omega)
    have ap := Rn_app (μ := μ ++ [.lst (ps.map D.int)]) (n := μ.length) (xs := ps.map D.int) (x := .int (i : Int)) getM0 (by rw [List.length_map]; omega)
    rw [setM0, show ps.map D.int ++ [D.int (i : Int)] = (ps ++ [(i : Int)]).map D.int from by rw [List.map_append]; rfl] at ap
    have hres : Rn (μ ++ [.lst (ps.map D.int)]) (res (.ref μ.length)) (.ref μ.length) (μ ++ [.lst (ps.map D.int)]) := Rn_res (o := .lst (ps.map D.int)) getM0 (fun _ q => nomatch q)
    have hsq : Rn (μ ++ [.lst (ps.map D.int)]) (seqL (.ref μ.length)) (ps.map D.int) (μ ++ [.lst (ps.map D.int)]) := Rn_seqL getM0
    have l1' := l1
    unfold F at *
    simp -implicitDefEqProofs [bindT, lu2, evS, DL.get, rl]
    refine wp_bind (wp_res hc1 (fun _ q => nomatch q) (wp_bind (wp_roll hc1 (by decide) fun r hr => ?_)))
    have e0 := eq_int (r : Int) 0
    by_cases c0 : r = 0
    · subst c0
      rw [show (((0 : Nat) : Int) == 0) = true from rfl] at e0
      rw [e0, pb]
      simp -implicitDefEqProofs
      refine wp_bind (wp_rn hres ?_)
      refine wp_bind (wp_rn add ?_)
      cases hbn : badN (m : Int) (ps ++ [(i : Int)]) with
      | none =>
        rw [hbn] at eb
        rw [show tabF (kcOf ks) tx (n + 8) 2 [D.int (m : Int), D.lst ((ps ++ [(i : Int)]).map D.int)] = M.pure .non from eb, pb]
        simp -implicitDefEqProofs [show D.non.isNon = true from rfl]
        refine wp_bind (wp_rn hres ?_)
        refine wp_bind (wp_rn hsq ?_)
        refine wp_bind (wp_rn ap ?_)
        exact wp_pure ⟨ps ++ [(i : Int)], _, plnew, hbn, rfl, rfl⟩
      | some p =>
        rw [hbn] at eb
        rw [show tabF (kcOf ks) tx (n + 8) 2 [D.int (m : Int), D.lst ((ps ++ [(i : Int)]).map D.int)] = M.pure (.int p) from eb, pb]
        simp -implicitDefEqProofs [show (D.int p).isNon = false from rfl]
        exact wp_pure ⟨ps, _, plmono, hb, rfl, rfl⟩
    · rw [show ((r : Int) == 0) = false from beq_eq_false_iff_ne.mpr (by omega)] at e0
      rw [e0, pb]
      simp -implicitDefEqProofs
      exact wp_pure ⟨ps, _, plmono, hb, rfl, rfl⟩
  · obtain ⟨ps, y7, pl, hb, rfl, rfl⟩ := hI
    rw [List.length_map, List.length_range] at pl
    exact ⟨ps, y7, pl, hb, rfl, rfl⟩
theorem us3 {x0 x2 x4 x5 x6 x7 x8 x9 x10 : Option D} {N : Nat} (hN : 1 ≤ N ∧ N ≤ 30) (rest : Sz) {Q : Out → Mem → Prop}
    (hQ : ∀ (ds : List Int), Pl N ds → wp (evS (F (n + 8)) (kcOf ks) rest [x0, some (.ref 0), x2, some (.int (N : Int)), x4, x5, x6, x7, some (tI ds), x9, x10]) μ Q) :
    wp (evS (F (n + 8)) (kcOf ks) (.cons u3 rest) [x0, some (.ref 0), x2, some (.int (N : Int)), x4, x5, x6, x7, x8, x9, x10]) μ Q := by
  have rl : tabF (kcOf ks) tx (n + 8) 23 = primRoll := call_roll rfl (by decide)
  have hr := rngN N (by omega)
  have hlen : lenOk ((List.range N).map fun (i : Nat) => D.int (i : Int)) = M.pure ((List.range N).map fun (i : Nat) => D.int (i : Int)) := lenOk_le (by simp; omega)
  have hgt := fun (i : Nat) (d : D) => @rng_get N i d
  have hll : ((List.range N).map fun (i : Nat) => D.int (i : Int)).length = N := by simp
  generalize ((List.range N).map fun (i : Nat) => D.int (i : Int)) = rg at *
  unfold F at *
  simp -implicitDefEqProofs [u3, lu3, evS, DL.get, hr, hlen]
  refine wp_bind (wp_lcI (fun i us μ' => μ' = μ ∧ ∃ ds : List Int, us = ds.map D.int ∧ Pl i ds) (fun i d us μ' hd hI => ?_) (fun us μ' hI => ?_) ⟨rfl, [], rfl, ⟨.nil, fun p hp => nomatch hp⟩⟩)
  · obtain ⟨rfl, ds, rfl, pl⟩ := hI
    obtain ⟨rfl, hiN⟩ := hgt i d hd
    refine wp_calm ?_
    simp -implicitDefEqProofs [wipeE, Tz.slots, bindT, DL.get, rl]
    refine wp_bind (wp_res hc (fun _ q => nomatch q) (wp_bind (wp_roll hc (by decide) fun r hr => ?_)))
    have e0 := eq_int (r : Int) 0
    by_cases c0 : r = 0
    · subst c0
      rw [show (((0 : Nat) : Int) == 0) = true from rfl] at e0
      rw [e0, pb]
      simp -implicitDefEqProofs
      refine wp_pure ⟨rfl, ds ++ [(i : Int)], by simp, ⟨List.pairwise_append.mpr ⟨pl.asc, List.pairwise_singleton _ _, fun x hx y hy => by
        rw [List.mem_singleton.mp hy]
        exact (pl.bd x hx).2⟩, fun p hp => by
        rcases List.mem_append.mp hp with hp | hp
        · have := pl.bd p hp; omega
        · rw [List.mem_singleton.mp hp]; omega⟩⟩
    · rw [show ((r : Int) == 0) = false from beq_eq_false_iff_ne.mpr (by omega)] at e0
      rw [e0, pb]
      simp -implicitDefEqProofs
      exact wp_pure ⟨rfl, ds, by simp, pl.mono (by omega)⟩
  · obtain ⟨rfl, ds, rfl, pl⟩ := hI
    rw [hll] at pl
    have e : D.tup (ds.map D.int) = tI ds := rfl
    simp -implicitDefEqProofs [setE]
    rw [e]
    exact hQ ds pl
end
theorem us45 (n : Nat) (rest : Sz) {x0 x1 x2 x5 x6 x7 x9 x10 : Option D} {N m : Nat} (hN : 1 ≤ N ∧ N ≤ 30) (hm : m ≤ 30) {ds : List Int} (pl : Pl N ds) : evS (F (n + 8)) (kcOf ks) (.cons u4 (.cons u5 rest)) [x0, x1, x2, some (.int (N : Int)), some (.int (m : Int)), x5, x6, x7, some (tI ds), x9, x10] =
    evS (F (n + 8)) (kcOf ks) rest [x0, x1, x2, some (.int (N : Int)), some (.int (m : Int)), x5, x6, x7, some (tI ds), some (optD (badN m ds)), x10] := by
  have e1 := bad2 (n + 7) (pd_t ds) (m := (m : Int)) (by omega) (pl.b1000 (by omega))
  have e2 := can_be_sure (n + 4) (N := (N : Int)) (m := (m : Int)) pl (by omega) (by omega)
  have e3 := unsure (n + 4) (N := (N : Int)) (m := (m : Int)) pl (by omega) (by omega)
  have L := like_at (Kc := kcOf ks) lk 3 (n + 4) (x := .lst [.bl (optD (badN m ds)).isNon, optD (badN m ds)]) ⟨by show 2 ≤ 8000; omega, fun x hx => by
    simp only [List.mem_cons, List.not_mem_nil, or_false] at hx
    rcases hx with rfl | rfl
    · exact trivial
    · exact plO 1 _⟩
  have ro := res_optD (badN m ds)
  have rs : res (tI ds) = M.pure (tI ds) := rfl
  generalize optD (badN m ds) = o at *
  generalize tI ds = T at *
  unfold F at *
  simp -implicitDefEqProofs [u4, u5, evS, DL.get, setE, rs, ro, e1, e2, e3, L]
theorem us6 (n : Nat) {μ : Mem} (hc : μ[0]? = some .cup) (hM : okM μ) {x0 x2 x7 x8 x9 x10 : Option D} {N m : Nat} {k : Int} (hN : 1 ≤ N ∧ N ≤ 30) (hm : m ≤ 30) (hk : 2 ≤ k ∧ k ≤ 10) {ps : List Int} (pl : Pl N ps) (hb : badN m ps = none) {Q : Out → Mem → Prop} {r : Nat} (hr : μ[r]? = some (.lst (ps.map D.int)))
    (hQ : Q (.nx [x0, some (.ref 0), x2, some (.int (N : Int)), some (.int (m : Int)), some (.int k), some (.ref r), x7, x8, x9, x10]) μ) :
    wp (evS (F (n + 8)) (kcOf ks) (.cons u6 .nil) [x0, some (.ref 0), x2, some (.int (N : Int)), some (.int (m : Int)), some (.int k), some (.ref r), x7, x8, x9, x10]) μ Q := by
  have rl : tabF (kcOf ks) tx (n + 8) 23 = primRoll := call_roll rfl (by decide)
  have hrg := rngN N (by omega)
  have hlen : lenOk ((List.range N).map fun (i : Nat) => D.int (i : Int)) = M.pure ((List.range N).map fun (i : Nat) => D.int (i : Int)) := lenOk_le (by simp; omega)
  have hll : ((List.range N).map fun (i : Nat) => D.int (i : Int)).length = N := by simp
  have lr := fun {hats : List Int} (o : Ok k m ps hats) {Q} => line_right (n + 2) o hc (okM_clo hM) (Q := Q)
  have et : D.tup (ps.map D.int) = tI ps := rfl
  generalize ((List.range N).map fun (i : Nat) => D.int (i : Int)) = rg at *
  unfold F at *
  simp -implicitDefEqProofs [u6, lu6, evS, DL.get]
  refine wp_bind (wp_res hc (fun _ q => nomatch q) ?_)
  refine wp_bind (wp_rn (Rn_res (o := .lst (ps.map D.int)) hr (fun _ q => nomatch q)) ?_)
  refine wp_bind (wp_rn (Rn_seqA hr) ?_)
  rw [et, hrg, pb, hlen, pb]
  refine wp_bind (wp_lcI (fun i us μ' => μ' = μ ∧ ∃ bs : List Int, us = bs.map D.int ∧ bs.length = i ∧ ∀ b ∈ bs, 0 ≤ b ∧ b < k) (fun i d us μ' hd hI => ?_) (fun us μ' hI => ?_) ⟨rfl, [], rfl, rfl, fun b hb => nomatch hb⟩)
  · obtain ⟨rfl, bs, rfl, hbl, hb⟩ := hI
    refine wp_calm ?_
    simp -implicitDefEqProofs [wipeE, Tz.slots, bindT, DL.get, rl]
    refine wp_bind (wp_res hc (fun _ q => nomatch q) (wp_bind (wp_roll hc (by omega) fun v hv => ?_)))
    refine wp_pure ⟨rfl, bs ++ [(v : Int)], by simp, by simp [hbl], fun b hb' => ?_⟩
    rcases List.mem_append.mp hb' with h | h
    · exact hb b h
    · rw [List.mem_singleton.mp h]; omega
  · obtain ⟨rfl, bs, rfl, hbl, hbb⟩ := hI
    have o : Ok k m ps bs := ⟨hk, hm, by rw [hbl, hll]; exact pl, hb, by omega, hbb⟩
    have l1 := fun {Q} => lr o (Q := Q)
    have hbt : D.tup (bs.map D.int) = tI bs := rfl
    rw [hbt]
    generalize tI bs = BT at *
    generalize tI ps = PT at *
    refine wp_bind (l1 ?_)
    simp -implicitDefEqProofs
    exact wp_pure hQ
end Row
namespace Row
open PySem DL
def lawI (s : D) (_ : Nat) (ρ : DL.Env) (μ : Mem) : Prop := μ[0]? = some .cup ∧ okM μ ∧ ∃ x2 x3 x4 x5 x6 x7 x8 x9 x10, ρ = [some s, some (.ref 0), x2, x3, x4, x5, x6, x7, x8, x9, x10]
theorem lturn (n : Nat) {s : D} {i : Nat} {ρ : DL.Env} {μ : Mem} {d : D} {Q : Out → Mem → Prop} (h : lawI s i ρ μ) (hQ : ∀ ρ' μ', lawI s (i + 1) ρ' μ' → Q (.nx ρ') μ') : wp (M.bind (M.opt (bindT (.nm 2) d ρ)) (evS (F (n + 8)) (kcOf ks) lq1)) μ Q := by
  obtain ⟨hc, hM, x2, x3, x4, x5, x6, x7, x8, x9, x10, rfl⟩ := h
  rw [show bindT (.nm 2) d [some s, some (.ref 0), x2, x3, x4, x5, x6, x7, x8, x9, x10] = some [some s, some (.ref 0), some d, x3, x4, x5, x6, x7, x8, x9, x10] from rfl, show M.opt (some [some s, some (.ref 0), some d, x3, x4, x5, x6, x7, x8, x9, x10]) = M.pure _ from rfl, pb, elq1]
  refine us0 n hc (okM_clo hM) _ fun N m k hN hm hk => ?_
  have hpos : 0 < μ.length := (List.getElem?_eq_some_iff.mp hc).1
  have al : Rn μ (evS (F (n + 8)) (kcOf ks) u1 [some s, some (.ref 0), some d, some (.int (N : Int)), some (.int (m : Int)), some (.int k), x6, x7, x8, x9, x10]) (.nx [some s, some (.ref 0), some d, some (.int (N : Int)), some (.int (m : Int)), some (.int k), some (.ref μ.length), x7, x8, x9, x10]) (μ ++ [.lst []]) := by
    unfold F u1
    simp -implicitDefEqProofs [evS]
    exact Rn_bind Rn_alloc (by simp -implicitDefEqProofs [setE]; exact Rn_pure)
  refine wp_bind (wp_rn al ?_)
  show wp (evS (F (n + 8)) (kcOf ks) (.cons u2 _) _) _ _
  refine us2 n hc hN hm _ fun ps y7 pl hb => ?_
  have hc2 : (μ ++ [Ob.lst (ps.map D.int)])[0]? = some .cup := by rw [List.getElem?_append_left hpos]; exact hc
  have hM2 : okM (μ ++ [Ob.lst (ps.map D.int)]) := okM_push hM (flat_ints ps)
  refine us3 n hc2 hN _ fun ds pld => ?_
  rw [us45 n _ hN hm pld]
  exact us6 n hc2 hM2 hN hm hk pl hb getM0 (hQ _ _ ⟨hc2, hM2, _, _, _, _, _, _, _, _, _, rfl⟩)
theorem law_wp (ns : List Int) (hn : ns.length ≤ 63) (n : Nat) : wp (α := D) (F (n + 9) 0 [.scr ns]) [] fun a _ => a = .bl true := by
  have gr := fun {μ : Mem} (hc : μ[0]? = some .cup) (hM : okM μ) {Q : D → Mem → Prop} => great_right n hc (okM_clo hM) (Q := Q)
  have er := fun {μ : Mem} (hM : okM μ) => errors_right n hM
  have lt := fun {s : D} {i : Nat} {ρ : DL.Env} {μ : Mem} {d : D} {Q : Out → Mem → Prop} => lturn n (s := s) (i := i) (ρ := ρ) (μ := μ) (d := d) (Q := Q)
  have t1 := told1 n
  have t2 := told2 n
  have t3 := told3 n
  unfold F
  rw [call_at (d := d0) rfl rfl _ rfl]
  refine wp_pop (wp_mono (Q := fun a μ => a = .bl true) ?_ fun a μ h => by
    subst h
    exact ⟨rfl, rfl⟩)
  rw [run_eq, ebq]
  have hN : d0.N.length = 11 := rfl
  rw [hN]
  have cl : tabF (kcOf ks) tx (n + 8) 1 = primCup := call_cup rfl
  have r5 : rng1 (.int 5) = M.pure ((List.range 5).map fun (i : Nat) => D.int (i : Int)) := by
    rw [rng1_ok (by omega)]
    rfl
  generalize hT : (Sz.cons q2 (.cons q3 (.cons q4 (.cons q5 (.cons q6 (.cons q7 (.cons q8 (.cons q9 (.cons q10 .nil))))))))) = TT at *
  unfold q1
  generalize lq1 = LQ at *
  unfold F at *
  simp -implicitDefEqProofs [q0, evS, DL.get, setE, cl]
  refine wp_bind (wp_cup hn ?_)
  simp -implicitDefEqProofs [r5]
  refine wp_bind (wp_forI (lawI (.scr ns)) (fun i d ρ μ hd hI => ?_) (fun ρ μ hI => ?_) ⟨rfl, fun o ho => by
    rw [List.mem_singleton.mp ho]
    exact .inl rfl, _, _, _, _, _, _, _, _, _, rfl⟩)
  · exact lt hI fun ρ' μ' h => h
  · obtain ⟨hc, hM, x2, x3, x4, x5, x6, x7, x8, x9, x10, rfl⟩ := hI
    simp -implicitDefEqProofs
    subst hT
    obtain ⟨y, e⟩ := t1 (.cons q5 (.cons q6 (.cons q7 (.cons q8 (.cons q9 (.cons q10 .nil)))))) (some (.scr ns)) (some (.ref 0)) x2 x3 x4 x5 x6 x7 x8 x9 x10
    rw [e]
    obtain ⟨y, e⟩ := t2 (.cons q8 (.cons q9 (.cons q10 .nil))) (some (.scr ns)) (some (.ref 0)) x2 x3 x4 x5 x6 x7 x8 x9 y
    rw [e]
    obtain ⟨z1, z2, e⟩ := t3 (.cons q10 .nil) (some (.scr ns)) (some (.ref 0)) x2 x3 x4 x5 x6 x7 x8 x9 y
    rw [e]
    simp -implicitDefEqProofs [q10, evS, DL.get]
    refine wp_bind (wp_res hc (fun _ q => nomatch q) (wp_bind (gr hc hM ?_)))
    simp -implicitDefEqProofs
    refine wp_bind (wp_res hc (fun _ q => nomatch q) (wp_bind (wp_at (er hM) ?_)))
    exact wp_pure rfl
theorem law_good : good 60 tx ks 0 := good_of_wp fun ns hn => law_wp ns hn 51
end Row
open PySem PySem.W PySem.Calls PyProof.Rows in
theorem PySem.Challenge.cw_gamesweighed_k58_whole_hats_in_a_line_holds : PySem.Challenge.rw_gamesweighed_k58_whole_hats_in_a_line.Holds := by
  w_on; o_law
  refine HandSHeadRun.head_any (r := OpenLaw.row PySem.Challenge.rw_gamesweighed_k58_whole_hats_in_a_line) (q := view (OpenLaw.row PySem.Challenge.rw_gamesweighed_k58_whole_hats_in_a_line).prog [42]) (H := Row.hk) (ob := Row.obs) (M := 4000) (loose := Row.loose) (d := HandSHeadRun.topDef (OpenLaw.row PySem.Challenge.rw_gamesweighed_k58_whole_hats_in_a_line).prog 42) (kwd := []) Row.obs_eq
    (by kernel_rfl) (fun s => by kernel_rfl) Row.hrun (by kernel_rfl) (by kernel_rfl) (by kernel_rfl) (by rfl) (by first | assumption | decide +kernel) (by decide +kernel) ⟨rfl, rfl, rfl, rfl, rfl, by decide +kernel⟩ ?hw ?hc
  case hw => w_witness2
  case hc =>
    refine LamX.walk_ofTsE (l := PySem.Challenge.rw_gamesweighed_k58_whole_hats_in_a_line) (n := 63) (k := 3 * 60) (x := "script") (CX := fun _ => L2.CX0) rfl (by decide) (by kernel_rfl) ⟨rfl, by decide, by decide⟩ ?F (fun _ _ _ _ _ z => z)
    intro w mg fa h Y G hmg0
    obtain ⟨K, KX, c⟩ := Y
    have hmg : mg ("law" : PySem.Str) = some (.ref fa) := by
      have e : (HandSHeadRun.topDef (OpenLaw.row PySem.Challenge.rw_gamesweighed_k58_whole_hats_in_a_line).prog 42).name = ("law" : PySem.Str) := by kernel_rfl
      rw [← e]
      exact hmg0
    exact ⟨K, KX, DL.law_facts (l := PySem.Challenge.rw_gamesweighed_k58_whole_hats_in_a_line) (w := w) (dL := Row.d0) Row.tok Row.bnd Row.bnde rfl rfl Row.law_good KX G c hmg⟩
